import PyProof.Rows.All
import Wide.All
import OpenK.AllK
import Wide.FinOn
import HandS.ForMost
import HandS.EndBits
import HandS.ForExc
import HandS.IsInst
import HandS.Flow
import HandS.Style
import HandS.Deep
import HandS.DictComp
import HandS.ExcInit
import HandS.ExcField
import HandS.ExcIs
import KE.DataEq
import KE.DataCmp
import KE.SortData
import KE.DataMinMax
import HandS.More
import HandS.NestedK
import HandS.TryMany
import HandS.Head4
import PySem.Challenge.RW_onestretch_k01_digs_checked
set_option Elab.async false
section
/-! Z: a small interpreter. Values are trees (D) or references to mutable cells (U.r); a cell lives in a region, one region a call. -/
set_option autoImplicit false
namespace Z
abbrev S := List Nat
inductive Ky where
  | i (n : Int) | s (x : S)
  deriving DecidableEq
inductive D where
  | non | bl (b : Bool) | int (i : Int) | str (s : S)
  | lst (xs : List D) | tup (xs : List D)
  | dct (ks : List Ky) (vs : List D)
  | obj (c : Nat) (vs : List D)
  /-- the script -/
  | scr (xs : List Int)
inductive U where
  | d (x : D) | r (g i : Nat)
inductive Cell where
  | gone | lst (xs : List U) | dct (ks : List Ky) (vs : List U) | ins (c : Nat) (vs : List U)
structure Stk where
  rs : List (List Cell)
  lk : List (Nat × Nat)

/-- region g (counted from the bottom), place i -/
def getL {α : Type} : List (List α) → Nat → Nat → Option α
  | [], _, _ => none
  | c :: l, g, i => if g = l.length then c[i]? else getL l g i
def setL {α : Type} : List (List α) → Nat → Nat → α → List (List α)
  | [], _, _, _ => []
  | c :: l, g, i, x => if g = l.length then c.set i x :: l else c :: setL l g i x
def Stk.set (s : Stk) (g i : Nat) (c : Cell) : Stk := ⟨setL s.rs g i c, s.lk⟩

inductive RE (α : Type) where
  | ok (a : α) (s : Stk) | ex (c : Nat) (vs : List D) (s : Stk) | no
def RE.bind {α β : Type} : RE α → (α → Stk → RE β) → RE β
  | .ok a s, f => f a s
  | .ex c vs s, _ => .ex c vs s
  | .no, _ => .no
def RE.of {α : Type} (o : Option α) (s : Stk) : RE α := match o with | some a => .ok a s | none => .no

/-- the longest list, text -/
abbrev big : Nat := 16777216

/-! ### views -/
def U.pu : U → Option D
  | .d x => some x
  | .r _ _ => none
def pus : List U → Option (List D)
  | [] => some []
  | u :: r => match u.pu, pus r with
    | some x, some xs => some (x :: xs)
    | _, _ => none
def lstOf (s : Stk) : U → Option (List U)
  | .d (.lst xs) => some (xs.map .d)
  | .d (.scr xs) => some (xs.map fun n => .d (.int n))
  | .d _ => none
  | .r g i => match getL s.rs g i with
    | some (.lst xs) => some xs
    | _ => none
/-- a list that is not the script -/
def lstW (s : Stk) : U → Option (List U)
  | .d (.scr _) => none
  | u => lstOf s u
def tupOf : U → Option (List U)
  | .d (.tup xs) => some (xs.map .d)
  | _ => none
def dctOf (s : Stk) : U → Option (List Ky × List U)
  | .d (.dct ks vs) => some (ks, vs.map .d)
  | .d _ => none
  | .r g i => match getL s.rs g i with
    | some (.dct ks vs) => some (ks, vs)
    | _ => none
def insOf (s : Stk) : U → Option (Nat × List U)
  | .d (.obj c vs) => some (c, vs.map .d)
  | .d _ => none
  | .r g i => match getL s.rs g i with
    | some (.ins c vs) => some (c, vs)
    | _ => none
/-- a value read as a tree -/
def toD (s : Stk) : Nat → U → Option D
  | _, .d x => some x
  | 0, .r _ _ => none
  | n + 1, .r g i => match getL s.rs g i with
    | some (.lst xs) => match (xs.map (toD s n)).foldr (fun o r => match o, r with | some x, some l => some (x :: l) | _, _ => none) (some []) with
      | some l => some (.lst l)
      | none => none
    | _ => none
def kyOf : U → Option Ky
  | .d (.int i) => some (.i i)
  | .d (.str x) => some (.s x)
  | _ => none
def kyLen : Ky → Bool
  | .i _ => true
  | .s x => decide (x.length ≤ 16777216)
def dkey : Ky → D
  | .i n => .int n
  | .s x => .str x

/-! ### cells -/
inductive Md where | val | cell
  deriving DecidableEq
def alloc (c : Cell) (s : Stk) : RE U :=
  match s.rs with
  | r :: l => .ok (.r l.length r.length) ⟨(r ++ [c]) :: l, s.lk⟩
  | [] => .no
def mkL (m : Md) (us : List U) (s : Stk) : RE U :=
  match m with
  | .val => match pus us with
    | some xs => .ok (.d (.lst xs)) s
    | none => .no
  | .cell => alloc (.lst us) s
def mkK (m : Md) (ks : List Ky) (us : List U) (s : Stk) : RE U :=
  match m with
  | .val => match pus us with
    | some xs => .ok (.d (.dct ks xs)) s
    | none => .no
  | .cell => alloc (.dct ks us) s
def U.below (g : Nat) : U → Bool
  | .d _ => true
  | .r h _ => decide (h ≤ g)
/-- the value of a call: what it refers to is closed up -/
def frz : Nat → Stk → U → Option (D × Stk)
  | _, s, .d x => some (x, s)
  | 0, _, .r _ _ => none
  | n + 1, s, .r g i =>
    if s.lk.contains (g, i) then none else
    match getL s.rs g i with
    | some (.lst us) => match us.foldr (fun u o => match o with | some (l, s) => (match frz n s u with | some (x, s') => some (x :: l, s') | none => none) | none => none) (some ([], s.set g i .gone)) with
      | some (l, s') => some (.lst l, s')
      | none => none
    | some (.dct ks us) => match us.foldr (fun u o => match o with | some (l, s) => (match frz n s u with | some (x, s') => some (x :: l, s') | none => none) | none => none) (some ([], s.set g i .gone)) with
      | some (l, s') => some (.dct ks l, s')
      | none => none
    | some (.ins c us) => match us.foldr (fun u o => match o with | some (l, s) => (match frz n s u with | some (x, s') => some (x :: l, s') | none => none) | none => none) (some ([], s.set g i .gone)) with
      | some (l, s') => some (.obj c l, s')
      | none => none
    | _ => none

/-! ### order and equality of trees -/
mutual
def eqD : D → D → Bool
  | .non, .non => true
  | .bl a, .bl b => a == b
  | .bl a, .int j => (if a then 1 else 0) == j
  | .int i, .bl b => i == (if b then 1 else 0)
  | .int i, .int j => i == j
  | .str x, .str y => x == y
  | .lst xs, .lst ys => eqDs xs ys
  | .tup xs, .tup ys => eqDs xs ys
  | _, _ => false
def eqDs : List D → List D → Bool
  | [], [] => true
  | x :: xs, y :: ys => eqD x y && eqDs xs ys
  | _, _ => false
end
mutual
/-- no dict, no object, at most n deep -/
def pl : Nat → D → Bool
  | _, .non => true
  | _, .bl _ => true
  | _, .int _ => true
  | _, .str _ => true
  | n + 1, .lst xs => pls n xs
  | n + 1, .tup xs => pls n xs
  | _, _ => false
def pls : Nat → List D → Bool
  | _, [] => true
  | n, x :: xs => pl n x && pls n xs
end
mutual
/-- texts of signs -/
def lay : D → Bool
  | .non => true
  | .bl _ => true
  | .int _ => true
  | .str x => x.all fun n => decide (n < 1114112)
  | .lst xs => lays xs
  | .tup xs => lays xs
  | _ => false
def lays : List D → Bool
  | [] => true
  | x :: xs => lay x && lays xs
end
mutual
/-- the same kind at each place -/
def alk : D → D → Bool
  | .non, .non => true
  | .bl _, .bl _ => true
  | .int _, .int _ => true
  | .str _, .str _ => true
  | .lst xs, .lst ys => alks xs ys
  | .tup xs, .tup ys => alks xs ys
  | _, _ => false
def alks : List D → List D → Bool
  | x :: xs, y :: ys => alk x y && alks xs ys
  | _, _ => true
end
mutual
/-- < of alike trees -/
def ltD : D → D → Bool
  | .bl a, .bl b => !a && b
  | .int i, .int j => decide (i < j)
  | .str x, .str y => decide (x < y)
  | .lst xs, .lst ys => ltDs xs ys
  | .tup xs, .tup ys => ltDs xs ys
  | _, _ => false
def ltDs : List D → List D → Bool
  | [], [] => false
  | [], _ :: _ => true
  | _ :: _, [] => false
  | x :: xs, y :: ys => if eqD x y then ltDs xs ys else ltD x y
end

def truth (s : Stk) : U → Option Bool
  | .d .non => some false
  | .d (.bl b) => some b
  | .d (.int i) => some (i != 0)
  | .d (.str x) => some (x.length != 0)
  | .d (.lst xs) => some (!xs.isEmpty)
  | .d (.tup xs) => some (!xs.isEmpty)
  | .d (.dct _ _) => none
  | .d (.obj _ _) => none
  | .d (.scr _) => none
  | .r g i => match getL s.rs g i with
    | some (.lst xs) => some (!xs.isEmpty)
    | some (.dct ks _) => some (!ks.isEmpty)
    | _ => none

/-! ### places -/
def ixN (n : Nat) (i : Int) : Option Nat := if 0 ≤ i then (if i < n then some i.toNat else none) else if -(n : Int) ≤ i then some (i + n).toNat else none
def atI {α : Type} (xs : List α) (i : Int) : Option α := match ixN xs.length i with
  | some j => xs[j]?
  | none => none
def sIx (n d : Nat) : Option Int → Nat
  | none => d
  | some v => if v < 0 then (v + (n : Int)).toNat else min v.toNat n
def cut {α : Type} (xs : List α) (lo hi : Option Int) : List α := (xs.drop (sIx xs.length 0 lo)).take (sIx xs.length xs.length hi - sIx xs.length 0 lo)
def lookK {α : Type} : List Ky → List α → Ky → Option α
  | k :: ks, v :: vs, x => if x = k then some v else lookK ks vs x
  | _, _, _ => none
def putK {α : Type} : List Ky → List α → Ky → α → List Ky × List α
  | k :: ks, v :: vs, x, y => if x = k then (k :: ks, y :: vs) else ((k :: (putK ks vs x y).1), (v :: (putK ks vs x y).2))
  | _, _, x, y => ([x], [y])
/-! ### operators -/
inductive BOp where | add | sub | mul | mod | fdiv | pow | bor | band | shl
  deriving DecidableEq
inductive COp where | eq | ne | lt | le | gt | ge | is | isn | inn | nin
  deriving DecidableEq
def mulOk (i j : Int) : Bool := (decide (-(2 ^ 64) < i) && decide (i < 2 ^ 64)) || (decide (-(2 ^ 64) < j) && decide (j < 2 ^ 64))
def intOp : BOp → Int → Int → Option Int
  | .add, i, j => some (i + j)
  | .sub, i, j => some (i - j)
  | .mul, i, j => if mulOk i j then some (i * j) else none
  | .mod, i, j => if 0 < j then some (i % j) else none
  | .fdiv, i, j => if 0 < j ∧ j < 1073741824 then some (i / j) else none
  | .pow, i, j => if 0 ≤ j ∧ j ≤ 1000000 ∧ i.natAbs < 2 ^ 64 then some (i ^ j.toNat) else none
  | _, _, _ => none
def asInt : U → Option Int
  | .d (.int i) => some i
  | _ => none
def asStr : U → Option S
  | .d (.str i) => some i
  | _ => none
def asBl : U → Option Bool
  | .d (.bl i) => some i
  | _ => none
def ixU (s : Stk) (a i : U) : Option U :=
  match lstOf s a with
  | some us => match asInt i with
    | some j => atI us j
    | none => none
  | none => match tupOf a with
    | some us => match asInt i with
      | some j => atI us j
      | none => none
    | none => match asStr a with
      | some x => match asInt i with
        | some j => (atI x j).map fun c => .d (.str [c])
        | none => none
      | none => match dctOf s a with
        | some (ks, vs) => match kyOf i with
          | some k => lookK ks vs k
          | none => none
        | none => none

def binL (m : Md) (o : BOp) (s : Stk) (a b : U) : RE U :=
  match o with
  | .add => match lstW s a, lstW s b with
    | some xs, some ys => if xs.length + ys.length ≤ big then mkL m (xs ++ ys) s else .no
    | _, _ => .no
  | .mul => match lstW s a, asInt b with
    | some xs, some j => if xs.length * j.toNat ≤ big ∧ -(2 ^ 63) ≤ j ∧ j < 2 ^ 63 then mkL m ((List.replicate j.toNat xs).flatten) s else .no
    | _, _ => .no
  | _ => .no
def binU (m : Md) (o : BOp) (s : Stk) (a b : U) : RE U :=
  match asInt a, asInt b with
  | some i, some j => RE.of ((intOp o i j).map fun k => .d (.int k)) s
  | _, _ => match asStr a, asStr b with
    | some x, some y => match o with
      | .add => if x.length + y.length ≤ big then .ok (.d (.str (x ++ y))) s else .no
      | _ => .no
    | _, _ => binL m o s a b
/-- how deep trees may be that are compared -/
abbrev dp : Nat := 40
def D.isN : D → Bool
  | .non => true
  | _ => false
def D.isT : D → Bool
  | .tup _ => true
  | _ => false
def D.isT0 : D → Bool
  | .tup [] => true
  | _ => false
def inU (s : Stk) (a c : U) : Option Bool :=
  match asStr c with
  | some z => match asStr a with
    | some [x] => some (z.contains x)
    | _ => none
  | none => match dctOf s c with
    | some (ks, _) => match kyOf a with
      | some k => some (ks.contains k)
      | none => none
    | none => match toD s 4 c, toD s 4 a with
      | some (.lst xs), some x => if pls dp xs && pl dp x then some (xs.any fun y => eqD y x) else none
      | some (.tup xs), some x => if pls dp xs && pl dp x then some (xs.any fun y => eqD y x) else none
      | _, _ => none
def ordU (s : Stk) (a b : U) : Option (D × D) :=
  match toD s 4 a, toD s 4 b with
  | some x, some y => if pl dp x && pl dp y && alk x y && !x.isN then some (x, y) else none
  | _, _ => none
def cmpU (o : COp) (s : Stk) (a b : U) : Option Bool :=
  match o with
  | .is => match b with
    | .d .non => match a with
      | .d .non => some true
      | _ => some false
    | .d (.bl y) => match a with
      | .d (.bl x) => some (x == y)
      | _ => none
    | _ => none
  | .isn => match b with
    | .d .non => match a with
      | .d .non => some false
      | _ => some true
    | .d (.bl y) => match a with
      | .d (.bl x) => some (!(x == y))
      | _ => none
    | _ => none
  | .eq => match toD s 4 a, toD s 4 b with
    | some x, some y => if pl dp x && pl dp y then some (eqD x y) else none
    | _, _ => none
  | .ne => match toD s 4 a, toD s 4 b with
    | some x, some y => if pl dp x && pl dp y then some (!eqD x y) else none
    | _, _ => none
  | .lt => (ordU s a b).map fun p => ltD p.1 p.2
  | .gt => (ordU s a b).map fun p => ltD p.2 p.1
  | .le => (ordU s a b).map fun p => !ltD p.2 p.1
  | .ge => (ordU s a b).map fun p => !ltD p.1 p.2
  | .inn => inU s a b
  | .nin => (inU s a b).map (!·)

/-! ### built-ins -/
inductive Ty where | str | lst | tup | int | bl | dct
  deriving DecidableEq
def isTy (s : Stk) (t : Ty) : U → Option Bool
  | .d .non => some false
  | .d (.bl _) => some (t == .bl || t == .int)
  | .d (.int _) => some (t == .int)
  | .d (.str _) => some (t == .str)
  | .d (.lst _) => some (t == .lst)
  | .d (.tup _) => some (t == .tup)
  | .d (.dct _ _) => some (t == .dct)
  | .d (.obj _ _) => none
  | .d (.scr _) => some (t == .lst)
  | .r g i => match getL s.rs g i with
    | some (.lst _) => some (t == .lst)
    | some (.dct _ _) => some (t == .dct)
    | _ => none
inductive Bf where | len | all | any | sum | min1 | max1 | min2 | max2 | sorted | abs
  deriving DecidableEq
inductive Bt where | list | tuple | int | str | bool
  deriving DecidableEq
def lenU (s : Stk) (a : U) : Option Nat :=
  match lstOf s a with
  | some us => some us.length
  | none => match tupOf a with
    | some us => some us.length
    | none => match asStr a with
      | some x => some x.length
      | none => match dctOf s a with
        | some (ks, _) => some ks.length
        | none => none
def bls : List U → Option (List Bool)
  | [] => some []
  | .d (.bl b) :: r => (bls r).map (b :: ·)
  | _ :: _ => none
def intsOf : List U → Option (List Int)
  | [] => some []
  | .d (.int b) :: r => (intsOf r).map (b :: ·)
  | _ :: _ => none
/-- all are alike, none is None, not deep -/
def sortable (xs : List D) : Bool := pls dp xs && xs.all fun x => !x.isN && !x.isT0 && xs.all fun y => alk x y
/-- either all are tuples or none is -/
def noMix (xs : List D) : Bool := xs.all D.isT || xs.all fun x => !x.isT
def D.flat : D → Bool
  | .int _ => true
  | .str _ => true
  | _ => false
def minL (x : D) (xs : List D) : D := xs.foldl (fun a y => if ltD y a then y else a) x
def maxL (x : D) (xs : List D) : D := xs.foldl (fun a y => if ltD a y then y else a) x
def sortD (xs : List D) : List D := xs.mergeSort fun a b => !ltD b a
def bfun (m : Md) (b : Bf) (s : Stk) (us : List U) : RE U :=
  match b, us with
  | .len, [a] => RE.of ((lenU s a).map fun (n : Nat) => .d (.int (n : Int))) s
  | .all, [a] => match lstOf s a with
    | some l => RE.of ((bls l).map fun bs => .d (.bl (bs.all id))) s
    | none => .no
  | .any, [a] => match lstOf s a with
    | some l => RE.of ((bls l).map fun bs => .d (.bl (bs.any id))) s
    | none => .no
  | .sum, [a] => match lstOf s a with
    | some l => RE.of ((intsOf l).map fun ns => .d (.int ns.sum)) s
    | none => .no
  | .min1, [a] => match toD s 4 a with
    | some (.lst (x :: xs)) => if sortable (x :: xs) && x.flat then .ok (.d (minL x xs)) s else .no
    | _ => .no
  | .max1, [a] => match toD s 4 a with
    | some (.lst (x :: xs)) => if sortable (x :: xs) && x.flat then .ok (.d (maxL x xs)) s else .no
    | _ => .no
  | .min2, [a, b] => match asInt a, asInt b with
    | some i, some j => .ok (.d (.int (if j < i then j else i))) s
    | _, _ => .no
  | .max2, [a, b] => match asInt a, asInt b with
    | some i, some j => .ok (.d (.int (if i < j then j else i))) s
    | _, _ => .no
  | .sorted, [a] => match lstOf s a with
    | some us => match pus us with
      | some xs => if sortable xs && noMix xs then mkL m ((sortD xs).map .d) s else .no
      | none => .no
    | none => .no
  | .abs, [a] => match asInt a with
    | some i => .ok (.d (.int (if i < 0 then -i else i))) s
    | none => .no
  | _, _ => .no
def bty (m : Md) (b : Bt) (s : Stk) (us : List U) : RE U :=
  match b, us with
  | .list, [a] => match lstOf s a with
    | some l => mkL m l s
    | none => match tupOf a with
      | some l => mkL m l s
      | none => match asStr a with
        | some x => mkL m (x.map fun c => .d (.str [c])) s
        | none => match dctOf s a with
          | some (ks, _) => if ks.all kyLen then mkL m (ks.map fun k => .d (dkey k)) s else .no
          | none => .no
  | .tuple, [a] => match lstOf s a with
    | some l => RE.of ((pus l).map fun xs => .d (.tup xs)) s
    | none => match tupOf a with
      | some _ => .ok a s
      | none => .no
  | .int, [a] => match asInt a with
    | some i => .ok (.d (.int i)) s
    | none => match asBl a with
      | some b => .ok (.d (.int (if b then 1 else 0))) s
      | none => .no
  | .bool, [a] => match asInt a with
    | some i => .ok (.d (.bl (i != 0))) s
    | none => match asBl a with
      | some b => .ok (.d (.bl b)) s
      | none => .no
  | _, _ => .no
inductive Bm where | append | extend | index | get1 | get2 | values | join | update | pop0 | popi | remove | setdef
  deriving DecidableEq
def joinS (z : S) : List S → S
  | [] => []
  | [x] => x
  | x :: y :: r => x ++ z ++ joinS z (y :: r)
def strsOf : List U → Option (List S)
  | [] => some []
  | .d (.str x) :: r => (strsOf r).map (x :: ·)
  | _ :: _ => none
/-- a cell is changed in place -/
def updC (s : Stk) (u : U) (f : Cell → Option Cell) (ok : List U) : RE Unit :=
  match u with
  | .r g i => if s.lk.contains (g, i) then .no else match getL s.rs g i with
    | some c => match f c with
      | some c' => if ok.all (U.below g) then .ok () (s.set g i c') else .no
      | none => .no
    | none => .no
  | .d _ => .no
def bmeth (b : Bm) (s : Stk) (o : U) (us : List U) : RE U :=
  match b, us with
  | .append, [a] => (updC s o (fun c => match c with | .lst xs => if xs.length < big then some (.lst (xs ++ [a])) else none | _ => none) [a]).bind fun _ s => .ok (.d .non) s
  | .extend, [a] => match lstW s a with
    | some ys => (updC s o (fun c => match c with | .lst xs => if xs.length + ys.length ≤ big then some (.lst (xs ++ ys)) else none | _ => none) ys).bind fun _ s => .ok (.d .non) s
    | none => .no
  | .index, [a] => match toD s 4 o, toD s 4 a with
    | some (.lst xs), some x => if (pls dp xs && pl dp x) && (lays xs && lay x) then RE.of ((xs.findIdx? fun y => eqD y x).map fun (n : Nat) => .d (.int (n : Int))) s else .no
    | _, _ => .no
  | .get1, [k] => match dctOf s o, kyOf k with
    | some (ks, vs), some k => .ok ((lookK ks vs k).getD (.d .non)) s
    | _, _ => .no
  | .get2, [k, x] => match dctOf s o, kyOf k with
    | some (ks, vs), some k => .ok ((lookK ks vs k).getD x) s
    | _, _ => .no
  | .join, [a] => match asStr o, lstOf s a with
    | some z, some l => match strsOf l with
      | some ys => if (joinS z ys).length ≤ big ∧ (ys.map fun y => y.length + z.length).sum ≤ big then .ok (.d (.str (joinS z ys))) s else .no
      | none => .no
    | _, _ => .no
  | _, _ => .no

/-- the receiver's kind -/
def bmOk (b : Bm) (s : Stk) (o : U) : Option Unit :=
  match b with
  | .join => (asStr o).map fun _ => ()
  | .get1 => (dctOf s o).map fun _ => ()
  | .get2 => (dctOf s o).map fun _ => ()
  | _ => (lstW s o).map fun _ => ()

/-! ### syntax -/
inductive Tg where
  | name (i : Nat) | tup (ts : List Tg)
mutual
inductive E where
  | var (i : Nat)
  | vfz (i : Nat)
  | lit (d : D)
  | con (k : Nat)
  | tup (es : List E) | lst (m : Md) (es : List E)
  | bin (m : Md) (o : BOp) (a b : E)
  | neg (a : E)
  | cmp (o : COp) (a b : E)
  | cmp2 (o p : COp) (a b c : E)
  | and (a b : E) | or (a b : E) | not (a : E)
  | ite (c a b : E)
  | ix (a i : E)
  | slc (m : Md) (a : E) (lo hi : Option E)
  | rev (m : Md) (a : E)
  | call (f : Nat) (es : List E)
  | new (c : Nat) (es : List E)
  | mth (m : Nat) (o : E) (es : List E)
  | fld (c j : Nat) (o : E)
  | isi (a : E) (t : Ty)
  | bf (m : Md) (b : Bf) (es : List E)
  | maxd (a : E) (d : E)
  | bt (m : Md) (b : Bt) (es : List E)
  | bm (b : Bm) (o : E) (es : List E)
  | comp (m : Md) (own : List Nat) (t : Tg) (it : It) (ifs : List E) (e : E)
  | dcomp (m : Md) (own : List Nat) (t : Tg) (it : It) (ifs : List E) (k v : E)
  | dnew
inductive It where
  | of (e : E) | enum (e : E) | zip (a b : E) | rng1 (a : E) | rng2 (a b : E) | rng3 (a b c : E) | items (e : E)
end
inductive X where
  | isi (c : Nat) | isB (t : Nat) | not (a : X) | or (a b : X)
inductive XE where
  | lit (d : D) | fld (c j : Nat) | tup (es : List XE)
inductive Su where
  | ifr (c : X) (e : XE) | ret (e : XE)
/-- a handler: its class, its name's place, its suite; the suite gives a value -/
structure Hd where
  c : Nat
  i : Nat
  h : List Su
inductive St where
  | set (t : Tg) (e : E)
  | par (is : List Nat) (es : List E)
  | aug (i : Nat) (o : BOp) (e : E)
  | exp (e : E)
  | ret (e : E) | retN
  | ife (c : E) (a b : List St)
  | for (t : Tg) (it : It) (b : List St)
  | whl (n : Nat) (c : E) (b : List St)
  | raise (c : Nat) (es : List E)
  | setix (o i e : E)
  | setfld (o : E) (c j : Nat) (e : E)
  | try (b : List St) (hs : List Hd)
  | cont | brk | pass
structure Fn where
  np : Nat
  ns : Nat
  body : List St
/-- the program -/
structure Pg where
  fn : Nat → Option Fn
  meth : Nat → Nat → Option Nat
  init : Nat → Option Nat
  flds : Nat → Nat
  con : Nat → D
  /-- c is c' or stands under it -/
  sub : Nat → Nat → Bool

abbrev Env := List (Option U)
inductive RS where
  | nx (ρ : Env) (s : Stk) | ret (u : U) (s : Stk) | brk (ρ : Env) (s : Stk) | cnt (ρ : Env) (s : Stk) | ex (c : Nat) (vs : List D) (s : Stk) | no
def RS.of {α : Type} : RE α → (α → Stk → RS) → RS
  | .ok a s, f => f a s
  | .ex c vs s, _ => .ex c vs s
  | .no, _ => .no
/-- what a walk gives at a turn: a value, or the parts of a tuple -/
inductive Im where | one (u : U) | many (us : List U)

mutual
def bindT : Tg → Im → Env → Option Env
  | .name i, .one u, ρ => some (ρ.set i (some u))
  | .name _, .many _, _ => none
  | .tup ts, .one u, ρ => match tupOf u with
    | some us => bindTs ts us ρ
    | none => none
  | .tup ts, .many us, ρ => bindTs ts us ρ
def bindTs : List Tg → List U → Env → Option Env
  | [], [], ρ => some ρ
  | t :: ts, u :: us, ρ => match bindT t (.one u) ρ with
    | some ρ' => bindTs ts us ρ'
    | none => none
  | _, _, _ => none
end
def setAll (ρ : Env) : List Nat → List U → Env
  | i :: is, u :: us => setAll (ρ.set i (some u)) is us
  | _, _ => ρ
def wipe (ρ : Env) : List Nat → Env
  | [] => ρ
  | v :: vs => (wipe ρ vs).set v none
def rngI (lo : Int) : Nat → List Im
  | 0 => []
  | n + 1 => .one (.d (.int lo)) :: rngI (lo + 1) n
def enumI : Nat → List U → List Im
  | _, [] => []
  | n, u :: r => .many [.d (.int (n : Int)), u] :: enumI (n + 1) r
def zipI : List U → List U → List Im
  | a :: r, b :: q => .many [a, b] :: zipI r q
  | _, _ => []
def itemsI : List Ky → List U → List Im
  | k :: r, v :: q => .many [.d (dkey k), v] :: itemsI r q
  | _, _ => []
/-- a list's items, and whether it is a cell that must stay -/
def lkOf : U → List (Nat × Nat)
  | .d _ => []
  | .r g i => [(g, i)]
/-- what a for walks -/
def walkU (s : Stk) (u : U) : Option (List U) :=
  match lstOf s u with
  | some us => some us
  | none => match tupOf u with
    | some us => some us
    | none => match asStr u with
      | some z => some (z.map fun c => .d (.str [c]))
      | none => none
def Stk.lock (s : Stk) (l : List (Nat × Nat)) : Stk := ⟨s.rs, l ++ s.lk⟩
def Stk.unlock (s : Stk) (l : List (Nat × Nat)) : Stk := ⟨s.rs, l⟩

/-- a comprehension's block: nothing may leave it -/
def RE.blk {α β : Type} : RE α → (α → Stk → RE β) → RE β
  | .ok a s, f => f a s
  | _, _ => .no
def ocons : Option U → List U → List U
  | some u, us => u :: us
  | none, us => us
def compL (f : Im → Stk → RE (Option U)) : List Im → Stk → RE (List U)
  | [], s => .ok [] s
  | x :: r, s => (f x s).blk fun o s1 => (compL f r s1).blk fun us s2 => .ok (ocons o us) s2
def putO (q : List Ky × List U) : Option (Ky × U) → List Ky × List U
  | some (k, v) => putK q.1 q.2 k v
  | none => q
def compK (f : Im → Stk → RE (Option (Ky × U))) : List Im → List Ky × List U → Stk → RE (List Ky × List U)
  | [], q, s => .ok q s
  | x :: r, q, s => (f x s).blk fun o s1 => compK f r (putO q o) s1
/-- behind a turn -/
def RS.turn : RS → (Env → Stk → RS) → RS
  | .nx ρ s, f => f ρ s
  | .cnt ρ s, f => f ρ s
  | .brk ρ s, _ => .nx ρ s
  | o, _ => o
def forL (f : Im → Env → Stk → RS) : List Im → Env → Stk → RS
  | [], ρ, s => .nx ρ s
  | x :: r, ρ, s => (f x ρ s).turn fun ρ s => forL f r ρ s
def whlL (c : Env → Stk → RE Bool) (f : Env → Stk → RS) : Nat → Env → Stk → RS
  | 0, _, _ => .no
  | n + 1, ρ, s => RS.of (c ρ s) fun b s1 => cond b ((f ρ s1).turn fun ρ s => whlL c f n ρ s) (.nx ρ s1)

def RS.seq : RS → (Env → Stk → RS) → RS
  | .nx ρ s, f => f ρ s
  | o, _ => o
def RS.unlock (l : List (Nat × Nat)) : RS → RS
  | .nx ρ s => .nx ρ (s.unlock l)
  | .ret u s => .ret u (s.unlock l)
  | .ex c vs s => .ex c vs (s.unlock l)
  | _ => .no
def asNon : U → Option Unit
  | .d .non => some ()
  | _ => none
def getV (ρ : Env) (i : Nat) : Option U := match ρ[i]? with
  | some (some u) => some u
  | _ => none
def frzU (n : Nat) (s : Stk) (u : U) : RE U := match frz n s u with
  | some (x, s') => .ok (.d x) s'
  | none => .no
def tupU (us : List U) : Option U := (pus us).map fun xs => .d (.tup xs)
def slcU (m : Md) (s : Stk) (x : U) (l h : Option Int) : RE U :=
  match lstOf s x with
  | some us => mkL m (cut us l h) s
  | none => match asStr x with
    | some z => .ok (.d (.str (cut z l h))) s
    | none => .no
def revU (m : Md) (s : Stk) (x : U) : RE U := match lstW s x with
  | some us => mkL m us.reverse s
  | none => .no
def maxdU (s : Stk) (x y : U) : Option U := match toD s 4 x with
  | some (.lst (x :: xs)) => if sortable (x :: xs) && x.flat then some (.d (maxL x xs)) else none
  | some (.lst []) => some y
  | _ => none
def fldU (s : Stk) (c j : Nat) (x : U) : Option U := match insOf s x with
  | some (c', vs) => if c' = c then vs[j]? else none
  | none => none
def methU (P : Pg) (s : Stk) (m : Nat) (x : U) : Option Nat := match insOf s x with
  | some (c, _) => P.meth c m
  | none => none
def augU (o : BOp) (x y : U) : Option U := match x, y with
  | .d (.int a), .d (.int b) => (intOp o a b).map fun k => U.d (.int k)
  | _, _ => none
def rng1 : U → Option (List Im × List (Nat × Nat))
  | .d (.int n) => if n ≤ (big : Int) ∧ -(2 ^ 62) ≤ n then some (rngI 0 n.toNat, []) else none
  | _ => none
def rng2 : U → U → Option (List Im × List (Nat × Nat))
  | .d (.int n), .d (.int m) => if m - n ≤ (big : Int) ∧ -(2 ^ 61) ≤ n ∧ n < 2 ^ 61 ∧ -(2 ^ 61) ≤ m ∧ m < 2 ^ 61 then some (rngI n (m - n).toNat, []) else none
  | _, _ => none
def zipU (s : Stk) (u v : U) : Option (List Im × List (Nat × Nat)) := match lstOf s u, lstOf s v with
  | some us, some vs => some (zipI us vs, lkOf u ++ lkOf v)
  | _, _ => none
def itemsU : U → Option (List Im × List (Nat × Nat))
  | .d (.dct ks vs) => if ks.all kyLen then some (itemsI ks (vs.map .d), []) else none
  | _ => none
def setixC (y v : U) : Cell → Option Cell
  | .lst xs => match y with
    | .d (.int j) => (ixN xs.length j).map fun k => .lst (xs.set k v)
    | _ => none
  | .dct ks vs => match kyOf y with
    | some k => if ks.length < big then some (.dct (putK ks vs k v).1 (putK ks vs k v).2) else none
    | none => none
  | _ => none
def setfldC (c j : Nat) (v : U) : Cell → Option Cell
  | .ins c' vs => if c' = c then (if j < vs.length then some (.ins c (vs.set j v)) else if j = vs.length then some (.ins c (vs ++ [v])) else none) else none
  | _ => none

section
variable (P : Pg) (cl : Nat → List U → Stk → RE U)
mutual
def evE : E → Env → Stk → RE U
  | .var i, ρ, s => RE.of (getV ρ i) s
  | .vfz i, ρ, s => (RE.of (getV ρ i) s).bind fun u s => frzU 4 s u
  | .lit d, _, s => .ok (.d d) s
  | .con k, _, s => .ok (.d (P.con k)) s
  | .tup es, ρ, s => (evEs es ρ s).bind fun us s => RE.of (tupU us) s
  | .lst m es, ρ, s => (evEs es ρ s).bind fun us s => mkL m us s
  | .bin m o a b, ρ, s => (evE a ρ s).bind fun x s => (evE b ρ s).bind fun y s => binU m o s x y
  | .neg a, ρ, s => (evE a ρ s).bind fun x s => (RE.of (asInt x) s).bind fun i s => .ok (.d (.int (-i))) s
  | .cmp o a b, ρ, s => (evE a ρ s).bind fun x s => (evE b ρ s).bind fun y s => (RE.of (cmpU o s x y) s).bind fun b s => .ok (.d (.bl b)) s
  | .cmp2 o p a b c, ρ, s => (evE a ρ s).bind fun x s => (evE b ρ s).bind fun y s => (RE.of (cmpU o s x y) s).bind fun t s =>
      cond t ((evE c ρ s).bind fun z s => (RE.of (cmpU p s y z) s).bind fun b s => .ok (.d (.bl b)) s) (.ok (.d (.bl false)) s)
  | .and a b, ρ, s => (evE a ρ s).bind fun x s => (RE.of (truth s x) s).bind fun t s => cond t (evE b ρ s) (.ok x s)
  | .or a b, ρ, s => (evE a ρ s).bind fun x s => (RE.of (truth s x) s).bind fun t s => cond t (.ok x s) (evE b ρ s)
  | .not a, ρ, s => (evE a ρ s).bind fun x s => (RE.of (truth s x) s).bind fun t s => .ok (.d (.bl (!t))) s
  | .ite c a b, ρ, s => (evE c ρ s).bind fun x s => (RE.of (truth s x) s).bind fun t s => cond t (evE a ρ s) (evE b ρ s)
  | .ix a i, ρ, s => (evE a ρ s).bind fun x s => (evE i ρ s).bind fun y s => RE.of (ixU s x y) s
  | .slc m a lo hi, ρ, s => (evE a ρ s).bind fun x s => (evO lo ρ s).bind fun l s => (evO hi ρ s).bind fun h s => slcU m s x l h
  | .rev m a, ρ, s => (evE a ρ s).bind fun x s => revU m s x
  | .call f es, ρ, s => (evEs es ρ s).bind fun us s => cl f us s
  | .new c es, ρ, s => (evEs es ρ s).bind fun us s => (RE.of (P.init c) s).bind fun f s => (alloc (.ins c []) s).bind fun x s =>
      (cl f (x :: us) s).bind fun v s => (RE.of (asNon v) s).bind fun _ s => frzU 3 s x
  | .mth m o es, ρ, s => (evE o ρ s).bind fun x s => (RE.of (methU P s m x) s).bind fun f s => (evEs es ρ s).bind fun us s => cl f (x :: us) s
  | .fld c j o, ρ, s => (evE o ρ s).bind fun x s => RE.of (fldU s c j x) s
  | .isi a t, ρ, s => (evE a ρ s).bind fun x s => (RE.of (isTy s t x) s).bind fun b s => .ok (.d (.bl b)) s
  | .bf m b es, ρ, s => (evEs es ρ s).bind fun us s => bfun m b s us
  | .maxd a d, ρ, s => (evE a ρ s).bind fun x s => (evE d ρ s).bind fun y s => RE.of (maxdU s x y) s
  | .bt m b es, ρ, s => (evEs es ρ s).bind fun us s => bty m b s us
  | .bm b o es, ρ, s => (evE o ρ s).bind fun x s => (RE.of (bmOk b s x) s).bind fun _ s => (evEs es ρ s).bind fun us s => bmeth b s x us
  | .comp m own t it ifs e, ρ, s => (evI it ρ s).bind fun p s =>
      (compL (fun x s => (RE.of (bindT t x (wipe ρ own)) s).bind fun ρ1 s => (evC ifs ρ1 s).bind fun c s => cond c ((evE e ρ1 s).bind fun u s => .ok (some u) s) (.ok none s)) p.1 (s.lock p.2)).blk fun us s' => mkL m us (s'.unlock s.lk)
  | .dcomp m own t it ifs k v, ρ, s => (evI it ρ s).bind fun p s =>
      (compK (fun x s => (RE.of (bindT t x (wipe ρ own)) s).bind fun ρ1 s => (evC ifs ρ1 s).bind fun c s => cond c ((evE k ρ1 s).bind fun u s => (RE.of (kyOf u) s).bind fun y s => (evE v ρ1 s).bind fun z s => .ok (some (y, z)) s) (.ok none s)) p.1 ([], []) (s.lock p.2)).blk fun q s' => mkK m q.1 q.2 (s'.unlock s.lk)
  | .dnew, _, s => alloc (.dct [] []) s
def evEs : List E → Env → Stk → RE (List U)
  | [], _, s => .ok [] s
  | e :: es, ρ, s => (evE e ρ s).bind fun u s => (evEs es ρ s).bind fun us s => .ok (u :: us) s
def evO : Option E → Env → Stk → RE (Option Int)
  | none, _, s => .ok none s
  | some e, ρ, s => (evE e ρ s).bind fun u s => (RE.of (asInt u) s).bind fun i s => .ok (some i) s
/-- the tests of a clause, at most one -/
def evC : List E → Env → Stk → RE Bool
  | [], _, s => .ok true s
  | e :: _, ρ, s => (evE e ρ s).bind fun u s => RE.of (truth s u) s
def evI : It → Env → Stk → RE (List Im × List (Nat × Nat))
  | .of e, ρ, s => (evE e ρ s).bind fun u s => (RE.of (walkU s u) s).bind fun us s => .ok (us.map .one, lkOf u) s
  | .enum e, ρ, s => (evE e ρ s).bind fun u s => (RE.of (lstOf s u) s).bind fun us s => .ok (enumI 0 us, lkOf u) s
  | .zip a b, ρ, s => (evE a ρ s).bind fun u s => (evE b ρ s).bind fun v s => RE.of (zipU s u v) s
  | .rng1 a, ρ, s => (evE a ρ s).bind fun u s => RE.of (rng1 u) s
  | .rng2 a b, ρ, s => (evE a ρ s).bind fun u s => (evE b ρ s).bind fun v s => RE.of (rng2 u v) s
  | .rng3 _ _ _, _, _ => .no
  | .items e, ρ, s => (evE e ρ s).bind fun u s => RE.of (itemsU u) s
end

/-- an except suite: the exception is of class c, its fields vs -/
def evX (P : Pg) (c : Nat) : X → Bool
  | .isi d => P.sub c d
  | .isB _ => true
  | .not a => !evX P c a
  | .or a b => evX P c a || evX P c b
mutual
def evXE (c : Nat) (vs : List D) : XE → Option D
  | .lit d => some d
  | .fld d j => if c = d then vs[j]? else none
  | .tup es => (evXEs c vs es).map .tup
def evXEs (c : Nat) (vs : List D) : List XE → Option (List D)
  | [] => some []
  | e :: es => (evXE c vs e).bind fun x => (evXEs c vs es).map (x :: ·)
end
def evSu (P : Pg) (c : Nat) (vs : List D) : List Su → Option (Option D)
  | [] => some none
  | .ifr b e :: r => cond (evX P c b) ((evXE c vs e).map some) (evSu P c vs r)
  | .ret e :: _ => (evXE c vs e).map some
def catchL (P : Pg) (d : Nat) (vs : List D) (s : Stk) : List Hd → RS
  | [] => .ex d vs s
  | h :: r => cond (P.sub d h.c) (match evSu P d vs h.h with | some (some x) => .ret (.d x) s | _ => .no) (catchL P d vs s r)
def RS.catch (P : Pg) (hs : List Hd) : RS → RS
  | .ex d vs s => catchL P d vs s hs
  | o => o

mutual
def evS : St → Env → Stk → RS
  | .set t e, ρ, s => RS.of (evE P cl e ρ s) fun u s => RS.of (RE.of (bindT t (.one u) ρ) s) fun ρ' s => .nx ρ' s
  | .par is es, ρ, s => RS.of (evEs P cl es ρ s) fun us s => if us.length = is.length then .nx (setAll ρ is us) s else .no
  | .aug i o e, ρ, s => RS.of (RE.of (getV ρ i) s) fun x s => RS.of (evE P cl e ρ s) fun y s => RS.of (RE.of (augU o x y) s) fun z s => .nx (ρ.set i (some z)) s
  | .exp e, ρ, s => RS.of (evE P cl e ρ s) fun _ s => .nx ρ s
  | .ret e, ρ, s => RS.of (evE P cl e ρ s) fun u s => .ret u s
  | .retN, _, s => .ret (.d .non) s
  | .ife c a b, ρ, s => RS.of (evE P cl c ρ s) fun u s => RS.of (RE.of (truth s u) s) fun t s => cond t (evSs a ρ s) (evSs b ρ s)
  | .for t it b, ρ, s => RS.of (evI P cl it ρ s) fun p s =>
      (forL (fun x ρ s => RS.of (RE.of (bindT t x ρ) s) fun ρ1 s => evSs b ρ1 s) p.1 ρ (s.lock p.2)).unlock s.lk
  | .whl n c b, ρ, s => whlL (fun ρ s => (evE P cl c ρ s).bind fun u s => RE.of (truth s u) s) (fun ρ s => evSs b ρ s) n ρ s
  | .raise c es, ρ, s => RS.of (evEs P cl es ρ s) fun us s => RS.of (RE.of (pus us) s) fun xs s => .ex c (if P.flds c = 0 then [] else xs) s
  | .setix o i e, ρ, s => RS.of (evE P cl e ρ s) fun v s => RS.of (evE P cl o ρ s) fun x s => RS.of (evE P cl i ρ s) fun y s =>
      RS.of (updC s x (setixC y v) [v]) fun _ s => .nx ρ s
  | .setfld o c j e, ρ, s => RS.of (evE P cl e ρ s) fun v s => RS.of (evE P cl o ρ s) fun x s => RS.of (updC s x (setfldC c j v) [v]) fun _ s => .nx ρ s
  | .try b hs, ρ, s => (evSs b ρ s).catch P hs
  | .cont, ρ, s => .cnt ρ s
  | .brk, ρ, s => .brk ρ s
  | .pass, ρ, s => .nx ρ s
def evSs : List St → Env → Stk → RS
  | [], ρ, s => .nx ρ s
  | st :: r, ρ, s => (evS st ρ s).seq fun ρ s => evSs r ρ s
end
end

/-- a call: a new region, dropped at the end -/
def fin : RS → RE U
  | .ret u s => (frzU 4 s u).bind fun x s => .ok x ⟨s.rs.tail, s.lk⟩
  | .nx _ s => .ok (.d .non) ⟨s.rs.tail, s.lk⟩
  | .ex c vs s => .ex c vs ⟨s.rs.tail, s.lk⟩
  | _ => .no
def call (P : Pg) : Nat → Nat → List U → Stk → RE U
  | 0, _, _, _ => .no
  | n + 1, f, us, s => match P.fn f with
    | some F => if us.length = F.np then fin (evSs P (call P n) F.body (us.map some ++ List.replicate (F.ns - F.np) none) ⟨[] :: s.rs, s.lk⟩) else .no
    | none => .no
end Z
end

section
set_option autoImplicit false
set_option linter.all false
set_option maxRecDepth 100000
namespace Z
open PySem (Str sizeLine Value Addr)
open L2 (V HO Hp Key)
abbrev HO' := L2.HO
def sOf (x : S) : Str := ⟨x.toArray⟩
def kOf : Ky → Key
  | .i n => .inl n
  | .s x => .inr (sOf x)
theorem sOf_inj {x y : S} (h : sOf x = sOf y) : x = y := by
  have e : x.toArray = y.toArray := congrArg Str.cps h
  simpa using e
theorem kOf_inj : ∀ {x y : Ky}, kOf x = kOf y → x = y
  | .i _, .i _, h => by cases h; rfl
  | .s _, .s _, h => by rw [sOf_inj (Sum.inr.inj h)]
/-- what stands fixed: the written part, the classes' places, their fields' names -/
structure Cfg where
  K : PySem.W.Frag
  ca : Nat → Addr
  fl : Nat → List Str
  /-- the errors -/
  xs : List Nat
structure Wd where
  H : Hp
  ι : List (List Addr)
  s : Stk
  z : Addr → Prop
def LiveC (w : Wd) (a : Addr) : Prop := ∃ g i k, getL w.ι g i = some a ∧ getL w.s.rs g i = some k ∧ k ≠ .gone
def Live (w : Wd) (a : Addr) : Prop := LiveC w a ∨ w.z a
/-- to be read: as it is, or locked -/
def Ob (H : Hp) (a : Addr) (u : HO) : Prop := H a = some u ∨ ∃ o, H a = some (.frz o u)
def KL (K : PySem.W.Frag) (a : Addr) (xs : List V) : Prop :=
  ∃ (o : PySem.Obj) (its : Array Value) (n : Nat), K.lookup a = some o ∧ o.cls = .type "list" ∧ o.dict = none ∧ o.data = .seq its n ∧ its.size ≤ sizeLine ∧ L2.Vals xs its.toList
def KT (K : PySem.W.Frag) (a : Addr) (xs : List V) : Prop :=
  ∃ (o : PySem.Obj) (its : Array Value) (n : Nat), K.lookup a = some o ∧ o.cls = .type "tuple" ∧ o.data = .seq its n ∧ its.size ≤ sizeLine ∧ L2.Vals xs its.toList
section
variable (c : Cfg) (H : Hp) (L : Addr → Prop)
mutual
inductive RD : D → V → Prop
  | non : RD .non .non
  | bl (b : Bool) : RD (.bl b) (.bl b)
  | int (i : Int) : RD (.int i) (.int i)
  | str {x : S} (h : x.length ≤ sizeLine) : RD (.str x) (.str (sOf x))
  | lst {xs : List D} {a : Addr} {vs : List V} (h : H a = some (.lst vs) ∧ ¬ L a) (z : vs.length ≤ sizeLine) (r : RDs xs vs) : RD (.lst xs) (.ref a)
  | tup {xs : List D} {a : Addr} {vs : List V} (h : Ob H a (.tup vs) ∧ ¬ L a ∨ KT c.K a vs) (z : vs.length ≤ sizeLine) (r : RDs xs vs) : RD (.tup xs) (.ref a)
  | dct {ks : List Ky} {xs : List D} {a : Addr} {kvs : List (Key × V)} (h : Ob H a (.dK kvs) ∧ ¬ L a) (z : kvs.length ≤ sizeLine) (e : kvs.map (·.1) = ks.map kOf) (nd : ks.Nodup) (r : RDs xs (kvs.map (·.2))) : RD (.dct ks xs) (.ref a)
  | obj {k : Nat} {xs : List D} {a dx : Addr} {fs : List (Str × V)} (h : H a = some (.ins (c.ca k) dx fs) ∧ ¬ L a) (e : fs.map (·.1) = (c.fl k).take xs.length) (r : RDs xs (fs.map (·.2))) : RD (.obj k xs) (.ref a)
  | scr {xs : List Int} {a : Addr} (h : Ob H a (.lst (xs.map V.int)) ∧ ¬ L a ∨ KL c.K a (xs.map V.int)) (z : xs.length ≤ sizeLine) : RD (.scr xs) (.ref a)
inductive RDs : List D → List V → Prop
  | nil : RDs [] []
  | cons {x : D} {v : V} {xs : List D} {vs : List V} (h : RD x v) (r : RDs xs vs) : RDs (x :: xs) (v :: vs)
end
end
/-- a value and what stands for it -/
inductive RU (c : Cfg) (w : Wd) : U → V → Prop
  | d {x : D} {v : V} (h : RD c w.H (Live w) x v) : RU c w (.d x) v
  | r {g i : Nat} {a : Addr} (h : getL w.ι g i = some a) : RU c w (.r g i) (.ref a)
inductive RUs (c : Cfg) (w : Wd) : List U → List V → Prop
  | nil : RUs c w [] []
  | cons {u : U} {v : V} {us : List U} {vs : List V} (h : RU c w u v) (r : RUs c w us vs) : RUs c w (u :: us) (v :: vs)
theorem RDs.length {c : Cfg} {H : Hp} {L : Addr → Prop} : ∀ {xs : List D} {vs : List V}, RDs c H L xs vs → xs.length = vs.length
  | _, _, .nil => rfl
  | _, _, .cons _ r => congrArg (· + 1) (RDs.length r)
theorem RUs.length {c : Cfg} {w : Wd} {us : List U} {vs : List V} (h : RUs c w us vs) : us.length = vs.length := by
  induction h with
  | nil => rfl
  | cons _ _ ih => exact congrArg (· + 1) ih
theorem RUs.of_d {c : Cfg} {w : Wd} : ∀ {xs : List D} {vs : List V}, RDs c w.H (Live w) xs vs → RUs c w (xs.map .d) vs
  | _, _, .nil => .nil
  | _, _, .cons h r => .cons (.d h) (RUs.of_d r)
theorem RUs.pus {c : Cfg} {w : Wd} {us : List U} {vs : List V} (h : RUs c w us vs) : ∀ {xs : List D}, Z.pus us = some xs → RDs c w.H (Live w) xs vs := by
  induction h with
  | nil => intro xs e; cases e; exact .nil
  | @cons u v us vs h r ih =>
    intro xs e
    cases h with
    | d hd =>
      rw [Z.pus] at e
      simp only [U.pu] at e
      split at e
      · rename_i x l e1 e2
        cases e
        cases e1
        exact .cons hd (ih e2)
      · cases e
    | r hr => rw [Z.pus] at e; simp only [U.pu] at e; cases e
theorem RUs.append {c : Cfg} {w : Wd} {us us' : List U} {vs vs' : List V} (h : RUs c w us vs) (k : RUs c w us' vs') : RUs c w (us ++ us') (vs ++ vs') := by
  induction h with
  | nil => exact k
  | cons h _ ih => exact .cons h ih
theorem RUs.get {c : Cfg} {w : Wd} {us : List U} {vs : List V} (h : RUs c w us vs) : ∀ {i : Nat} {u : U}, us[i]? = some u → ∃ v, vs[i]? = some v ∧ RU c w u v := by
  induction h with
  | nil => intro i u e; simp at e
  | cons h _ ih =>
    intro i u e
    cases i with
    | zero => simp at e; subst e; exact ⟨_, rfl, h⟩
    | succ i => simpa using ih (by simpa using e)
theorem RUs.take {c : Cfg} {w : Wd} {us : List U} {vs : List V} (h : RUs c w us vs) : ∀ n, RUs c w (us.take n) (vs.take n) := by
  induction h with
  | nil => intro n; simp; exact .nil
  | cons h _ ih =>
    intro n
    cases n with
    | zero => exact .nil
    | succ n => exact .cons h (ih n)
theorem RUs.drop {c : Cfg} {w : Wd} {us : List U} {vs : List V} (h : RUs c w us vs) : ∀ n, RUs c w (us.drop n) (vs.drop n) := by
  induction h with
  | nil => intro n; simp; exact .nil
  | @cons u v us vs h r ih =>
    intro n
    cases n with
    | zero => exact .cons h r
    | succ n => exact ih n
theorem RUs.set {c : Cfg} {w : Wd} {us : List U} {vs : List V} {u : U} {v : V} (k : RU c w u v) (h : RUs c w us vs) : ∀ n, RUs c w (us.set n u) (vs.set n v) := by
  induction h with
  | nil => intro n; exact .nil
  | cons h r ih =>
    intro n
    cases n with
    | zero => exact .cons k r
    | succ n => exact .cons h (ih n)
theorem RUs.rev {c : Cfg} {w : Wd} {us : List U} {vs : List V} (h : RUs c w us vs) : RUs c w us.reverse vs.reverse := by
  induction h with
  | nil => exact .nil
  | cons h _ ih => simp only [List.reverse_cons]; exact ih.append (.cons h .nil)
theorem RUs.cut {c : Cfg} {w : Wd} {us : List U} {vs : List V} (h : RUs c w us vs) (lo hi : Option Int) : RUs c w (Z.cut us lo hi) (Z.cut vs lo hi) := by
  unfold Z.cut
  rw [h.length]
  exact (h.drop _).take _

/-! ### a state of cells -/
def Cell.us : Cell → List U
  | .gone => []
  | .lst us => us
  | .dct _ us => us
  | .ins _ us => us
def CellR (c : Cfg) (w : Wd) (a : Addr) : Cell → Prop
  | .gone => True
  | .lst us => ∃ vs, w.H a = some (.lst vs) ∧ vs.length ≤ sizeLine ∧ RUs c w us vs
  | .dct ks us => ∃ kvs : List (Key × V), w.H a = some (.dK kvs) ∧ kvs.length ≤ sizeLine ∧ kvs.map (·.1) = ks.map kOf ∧ ks.Nodup ∧ RUs c w us (kvs.map (·.2))
  | .ins k us => ∃ (dx : Addr) (fs : List (Str × V)), w.H a = some (.ins (c.ca k) dx fs) ∧ fs.map (·.1) = (c.fl k).take us.length ∧ us.length ≤ (c.fl k).length ∧ RUs c w us (fs.map (·.2))
structure OkW (c : Cfg) (w : Wd) : Prop where
  shape : w.ι.map List.length = w.s.rs.map List.length
  cell : ∀ g i a k, getL w.ι g i = some a → getL w.s.rs g i = some k → CellR c w a k
  inj : ∀ g i g' i' a k k', getL w.ι g i = some a → getL w.ι g' i' = some a → getL w.s.rs g i = some k → getL w.s.rs g' i' = some k' → k ≠ .gone → k' ≠ .gone → g = g' ∧ i = i'
  low : ∀ g i k, getL w.s.rs g i = some k → ∀ u ∈ k.us, U.below g u = true
  zs : ∀ a, w.z a → (∃ x, w.H a = some x) ∧ ¬ LiveC w a
structure Ext (w w' : Wd) : Prop where
  keep : ∀ a x, w.H a = some x → ¬ Live w a → w'.H a = some x ∧ ¬ Live w' a
  io : ∀ g i a, getL w.ι g i = some a → getL w'.ι g i = some a
  len : w'.ι.length = w.ι.length
  lk : w'.s.lk = w.s.lk
  lkd : ∀ g i k, (g, i) ∈ w.s.lk → getL w.s.rs g i = some k → getL w'.s.rs g i = some k
  zz : w'.z = w.z
  zk : ∀ a, w.z a → w'.H a = w.H a
theorem Ext.refl (w : Wd) : Ext w w := ⟨fun _ _ h n => ⟨h, n⟩, fun _ _ _ h => h, rfl, rfl, fun _ _ _ _ e => e, rfl, fun _ _ => rfl⟩
theorem Ext.trans {w w1 w2 : Wd} (a : Ext w w1) (b : Ext w1 w2) : Ext w w2 where
  keep := fun p x h n => b.keep p x (a.keep p x h n).1 (a.keep p x h n).2
  io := fun g i p h => b.io g i p (a.io g i p h)
  len := b.len.trans a.len
  lk := b.lk.trans a.lk
  lkd := fun g i k h e => b.lkd g i k (by rw [a.lk]; exact h) (a.lkd g i k h e)
  zz := b.zz.trans a.zz
  zk := fun p h => (b.zk p (by rw [a.zz]; exact h)).trans (a.zk p h)
section
variable {c : Cfg} {H H' : Hp} {L L' : Addr → Prop}
/-- what a tree leans on stays -/
def Nf (u : HO) : Prop := ∀ o v, u ≠ .frz o v
def Keeps (H H' : Hp) (L L' : Addr → Prop) : Prop := ∀ a, ¬ L a → (∀ u, Nf u → Ob H a u → Ob H' a u ∧ ¬ L' a) ∧ (∀ C dx fs, H a = some (.ins C dx fs) → H' a = some (.ins C dx fs)) ∧ ∀ xs, H a = some (.lst xs) → H' a = some (.lst xs)
mutual
theorem RD.mono (k : Keeps H H' L L') : ∀ {x : D} {v : V}, RD c H L x v → RD c H' L' x v
  | _, _, .non => .non
  | _, _, .bl b => .bl b
  | _, _, .int i => .int i
  | _, _, .str h => .str h
  | _, _, .lst h z r => .lst ⟨(k _ h.2).2.2 _ h.1, ((k _ h.2).1 _ (fun _ _ q => by cases q) (.inl h.1)).2⟩ z (RDs.mono k r)
  | _, _, .tup h z r => .tup (h.imp (fun h => (k _ h.2).1 _ (fun _ _ q => by cases q) h.1) id) z (RDs.mono k r)
  | _, _, .dct h z e nd r => .dct ((k _ h.2).1 _ (fun _ _ q => by cases q) h.1) z e nd (RDs.mono k r)
  | _, _, .scr h z => .scr (h.imp (fun h => (k _ h.2).1 _ (fun _ _ q => by cases q) h.1) id) z
  | _, _, .obj h e r => .obj ⟨(k _ h.2).2.1 _ _ _ h.1, ((k _ h.2).1 _ (fun _ _ q => by cases q) (.inl h.1)).2⟩ e (RDs.mono k r)
theorem RDs.mono (k : Keeps H H' L L') : ∀ {xs : List D} {vs : List V}, RDs c H L xs vs → RDs c H' L' xs vs
  | _, _, .nil => .nil
  | _, _, .cons h r => .cons (RD.mono k h) (RDs.mono k r)
end
end
theorem Ext.keeps {w w' : Wd} (x : Ext w w') : Keeps w.H w'.H (Live w) (Live w') := fun a n =>
  ⟨fun u _ h => by
    rcases h with h | ⟨o, h⟩
    · exact ⟨.inl (x.keep a _ h n).1, (x.keep a _ h n).2⟩
    · exact ⟨.inr ⟨o, (x.keep a _ h n).1⟩, (x.keep a _ h n).2⟩, fun _ _ _ h => (x.keep a _ h n).1, fun _ h => (x.keep a _ h n).1⟩
theorem RU.mono' {c : Cfg} {w w' : Wd} (k : Keeps w.H w'.H (Live w) (Live w')) (io : ∀ g i a, getL w.ι g i = some a → getL w'.ι g i = some a) {u : U} {v : V} : RU c w u v → RU c w' u v
  | .d h => .d (h.mono k)
  | .r h => .r (io _ _ _ h)
theorem RU.mono {c : Cfg} {w w' : Wd} (x : Ext w w') {u : U} {v : V} (h : RU c w u v) : RU c w' u v := h.mono' x.keeps x.io
theorem RUs.mono' {c : Cfg} {w w' : Wd} (k : Keeps w.H w'.H (Live w) (Live w')) (io : ∀ g i a, getL w.ι g i = some a → getL w'.ι g i = some a) {us : List U} {vs : List V} (h : RUs c w us vs) : RUs c w' us vs := by
  induction h with
  | nil => exact .nil
  | cons h _ ih => exact .cons (h.mono' k io) ih
theorem RUs.mono {c : Cfg} {w w' : Wd} (x : Ext w w') {us : List U} {vs : List V} (h : RUs c w us vs) : RUs c w' us vs := h.mono' x.keeps x.io
/-- the slots -/
def EnvR (c : Cfg) (w : Wd) (ρ : Env) (σ : L2.St) : Prop := ρ.length = σ.length ∧ ∀ (i : Nat) (u : U), ρ[i]? = some (some u) → ∃ v : V, σ[i]? = some (some v) ∧ RU c w u v
theorem EnvR.mono {c : Cfg} {w w' : Wd} {ρ : Env} {σ : L2.St} (x : Ext w w') (h : EnvR c w ρ σ) : EnvR c w' ρ σ :=
  ⟨h.1, fun i u e => let ⟨v, a, b⟩ := h.2 i u e; ⟨v, a, b.mono x⟩⟩
theorem EnvR.set {c : Cfg} {w : Wd} {ρ : Env} {σ : L2.St} {u : U} {v : V} (h : EnvR c w ρ σ) (r : RU c w u v) (i : Nat) : EnvR c w (ρ.set i (some u)) (σ.set i (some v)) := by
  refine ⟨by simp [h.1], fun j x e => ?_⟩
  by_cases q : i = j
  · subst q
    by_cases hi : i < ρ.length
    · rw [List.getElem?_set_self hi] at e
      cases e
      exact ⟨v, by rw [List.getElem?_set_self (by rw [← h.1]; exact hi)], r⟩
    · rw [List.getElem?_eq_none (by simpa using hi)] at e
      cases e
  · rw [List.getElem?_set_ne q] at e
    obtain ⟨v', e1, r1⟩ := h.2 j x e
    exact ⟨v', by rw [List.getElem?_set_ne q]; exact e1, r1⟩
theorem EnvR.none {c : Cfg} {w : Wd} {ρ : Env} {σ : L2.St} (h : EnvR c w ρ σ) (i : Nat) : EnvR c w (ρ.set i none) (σ.set i none) := by
  refine ⟨by simp [h.1], fun j x e => ?_⟩
  by_cases q : i = j
  · subst q
    by_cases hi : i < ρ.length
    · rw [List.getElem?_set_self hi] at e
      cases e
    · rw [List.getElem?_eq_none (by simpa using hi)] at e
      cases e
  · rw [List.getElem?_set_ne q] at e
    obtain ⟨v', e1, r1⟩ := h.2 j x e
    exact ⟨v', by rw [List.getElem?_set_ne q]; exact e1, r1⟩
theorem EnvR.wipe {c : Cfg} {w : Wd} {ρ : Env} {σ : L2.St} (h : EnvR c w ρ σ) : ∀ vs : List Nat, EnvR c w (Z.wipe ρ vs) (L2.wipe σ vs)
  | [] => h
  | v :: vs => (EnvR.wipe h vs).none v
theorem EnvR.setAll {c : Cfg} {w : Wd} : ∀ {is : List Nat} {us : List U} {vs : List V} {ρ : Env} {σ : L2.St}, EnvR c w ρ σ → RUs c w us vs → us.length = is.length → EnvR c w (Z.setAll ρ is us) ((is.zip vs).foldl (fun σ p => σ.set p.1 (some p.2)) σ)
  | [], _, _, _, _, h, .nil, _ => h
  | i :: is, _, _, _, _, h, .cons r rs, e => EnvR.setAll (is := is) (h.set r i) rs (by simpa using e)

/-! ### places of cells -/
section
variable {α : Type}
theorem getL_lt : ∀ {l : List (List α)} {g i : Nat} {a : α}, getL l g i = some a → g < l.length
  | [], _, _, _, h => by cases h
  | c :: l, g, i, a, h => by
    rw [getL] at h
    split at h
    · rename_i e; rw [List.length_cons]; omega
    · have := getL_lt h; rw [List.length_cons]; omega
theorem getL_top {c : List α} {l : List (List α)} {i : Nat} : getL (c :: l) l.length i = c[i]? := by rw [getL, if_pos rfl]
theorem getL_low {c : List α} {l : List (List α)} {g i : Nat} (h : g ≠ l.length) : getL (c :: l) g i = getL l g i := by rw [getL, if_neg h]
theorem getL_set : ∀ {l : List (List α)} {g i g' i' : Nat} {x y : α}, getL l g i = some y → getL (setL l g i x) g' i' = if g = g' ∧ i = i' then some x else getL l g' i'
  | [], _, _, _, _, _, _, h => by cases h
  | c :: l, g, i, g', i', x, y, h => by
    have len : ∀ {l : List (List α)} {g i : Nat} {x : α}, (setL l g i x).length = l.length := fun {l} => by
      induction l with
      | nil => intros; rfl
      | cons c l ih =>
        intro g i x
        rw [setL]
        split
        · rfl
        · rw [List.length_cons, ih, List.length_cons]
    rw [getL] at h
    rw [setL]
    by_cases e : g = l.length
    · rw [if_pos e] at h
      rw [if_pos e, getL, getL]
      have hi : i < c.length := (List.getElem?_eq_some_iff.mp h).1
      by_cases e2 : g' = l.length
      · rw [if_pos e2, if_pos e2]
        by_cases e3 : i = i'
        · subst e3
          rw [List.getElem?_set_self hi, if_pos ⟨e.trans e2.symm, rfl⟩]
        · rw [List.getElem?_set_ne e3, if_neg fun z => e3 z.2]
      · rw [if_neg e2, if_neg e2, if_neg fun z => e2 (z.1.symm.trans e)]
    · rw [if_neg e] at h
      rw [if_neg e, getL, getL, len]
      by_cases e2 : g' = l.length
      · rw [if_pos e2, if_pos e2, if_neg fun z => e (z.1.trans e2)]
      · rw [if_neg e2, if_neg e2]
        exact getL_set h
theorem setL_shape : ∀ {l : List (List α)} {g i : Nat} {x : α}, (setL l g i x).map List.length = l.map List.length
  | [], _, _, _ => rfl
  | c :: l, g, i, x => by
    rw [setL]
    split
    · simp
    · rw [List.map_cons, setL_shape, List.map_cons]
theorem shape_some {β : Type} : ∀ {l : List (List α)} {m : List (List β)}, l.map List.length = m.map List.length → ∀ {g i : Nat} {a : α}, getL l g i = some a → ∃ b, getL m g i = some b
  | [], _, _, _, _, _, h => by cases h
  | c :: l, [], e, _, _, _, _ => by simp at e
  | c :: l, d :: m, e, g, i, a, h => by
    simp only [List.map_cons, List.cons.injEq] at e
    have hl : l.length = m.length := by simpa using congrArg List.length e.2
    rw [getL] at h ⊢
    rw [← hl]
    by_cases q : g = l.length
    · rw [if_pos q] at h ⊢
      have hi : i < c.length := (List.getElem?_eq_some_iff.mp h).1
      exact ⟨d[i]'(by rw [← e.1]; exact hi), by simp [← e.1, hi]⟩
    · rw [if_neg q] at h ⊢
      exact shape_some e.2 h
end
section
variable {c : Cfg} {w : Wd}
theorem CellR.has {a : Addr} {k : Cell} (h : CellR c w a k) (n : k ≠ .gone) : ∃ x, w.H a = some x := by
  cases k with
  | gone => exact absurd rfl n
  | lst us => obtain ⟨vs, e, _⟩ := h; exact ⟨_, e⟩
  | dct ks us => obtain ⟨vs, e, _⟩ := h; exact ⟨_, e⟩
  | ins k us => obtain ⟨dx, fs, e, _⟩ := h; exact ⟨_, e⟩
theorem OkW.live_some (ok : OkW c w) {a : Addr} (h : Live w a) : ∃ x, w.H a = some x := by
  rcases h with ⟨g, i, k, e1, e2, n⟩ | h
  · exact (CellR.has (ok.cell g i a k e1 e2) n)
  · exact (ok.zs a h).1
theorem OkW.fresh (ok : OkW c w) {a : Addr} (h : w.H a = none) : ¬ Live w a := fun l => by
  obtain ⟨x, e⟩ := ok.live_some l
  rw [h] at e; cases e
theorem CellR.mono {w' : Wd} {a : Addr} {k : Cell} (K : Keeps w.H w'.H (Live w) (Live w')) (io : ∀ g i a, getL w.ι g i = some a → getL w'.ι g i = some a) (e : w'.H a = w.H a) (h : CellR c w a k) : CellR c w' a k := by
  cases k with
  | gone => trivial
  | lst us => obtain ⟨vs, h1, h2, h3⟩ := h; exact ⟨vs, e.trans h1, h2, h3.mono' K io⟩
  | dct ks us => obtain ⟨vs, h1, h2, h3, h4, h5⟩ := h; exact ⟨vs, e.trans h1, h2, h3, h4, h5.mono' K io⟩
  | ins k us => obtain ⟨dx, fs, h1, h2, h3, h4⟩ := h; exact ⟨dx, fs, e.trans h1, h2, h3, h4.mono' K io⟩
/-- the world with a new fixed object -/
def Wd.val (w : Wd) (p : Addr) (o : HO) : Wd := ⟨L2.upd w.H p o, w.ι, w.s, w.z⟩
theorem Wd.val_ext (ok : OkW c w) {p : Addr} {o : HO} (h : w.H p = none) : Ext w (w.val p o) where
  keep := fun a x e n => ⟨by show L2.upd w.H p o a = some x; rw [L2.upd_ne (L2.ne_of_none e h)]; exact e, n⟩
  io := fun _ _ _ e => e
  len := rfl
  lk := rfl
  lkd := fun _ _ _ _ e => e
  zz := rfl
  zk := fun a m => by obtain ⟨x, e⟩ := (ok.zs a m).1; show L2.upd w.H p o a = _; rw [L2.upd_ne (L2.ne_of_none e h)]
theorem Wd.val_ok (ok : OkW c w) {p : Addr} {o : HO} (h : w.H p = none) : OkW c (w.val p o) where
  shape := ok.shape
  cell := fun g i a k e1 e2 => by
    by_cases n : k = .gone
    · subst n; trivial
    · have x := Wd.val_ext (o := o) ok h
      obtain ⟨y, hy⟩ := (CellR.has (ok.cell g i a k e1 e2) n)
      exact CellR.mono (w' := w.val p o) x.keeps x.io (by show L2.upd w.H p o a = _; rw [L2.upd_ne (L2.ne_of_none hy h)]) (ok.cell g i a k e1 e2)
  inj := ok.inj
  low := ok.low
  zs := fun a m => ⟨by obtain ⟨x, e⟩ := (ok.zs a m).1; exact ⟨x, by show L2.upd w.H p o a = _; rw [L2.upd_ne (L2.ne_of_none e h)]; exact e⟩, (ok.zs a m).2⟩
theorem Wd.val_free (ok : OkW c w) {p : Addr} {o : HO} (h : w.H p = none) : Ob (w.val p o).H p o ∧ ¬ Live (w.val p o) p :=
  ⟨.inl (by show L2.upd w.H p o p = _; exact L2.upd_same), fun l => ok.fresh h l⟩
/-- the world with a new cell in the top region -/
def Wd.new (w : Wd) (p : Addr) (o : HO) (k : Cell) : Wd :=
  match w.ι, w.s.rs with
  | ic :: il, r :: l => ⟨L2.upd w.H p o, (ic ++ [p]) :: il, ⟨(r ++ [k]) :: l, w.s.lk⟩, w.z⟩
  | _, _ => w
theorem getL_push {α : Type} {r : List α} {l : List (List α)} {x a : α} {g i : Nat} (h : getL ((r ++ [x]) :: l) g i = some a) : getL (r :: l) g i = some a ∨ (g = l.length ∧ i = r.length ∧ a = x) := by
  rw [getL] at h ⊢
  split at h
  · rename_i e
    rw [if_pos e]
    by_cases q : i < r.length
    · left; rw [List.getElem?_append_left q] at h; exact h
    · right
      rw [List.getElem?_append_right (by omega)] at h
      cases e3 : i - r.length with
      | zero => rw [e3] at h; simp at h; exact ⟨e, by omega, h.symm⟩
      | succ n => rw [e3] at h; simp at h
  · rename_i e; rw [if_neg e]; exact .inl h
theorem getL_push_old {α : Type} {r : List α} {l : List (List α)} {x a : α} {g i : Nat} (h : getL (r :: l) g i = some a) : getL ((r ++ [x]) :: l) g i = some a := by
  rw [getL] at h ⊢
  split at h
  · rename_i e
    rw [if_pos e, List.getElem?_append_left (List.getElem?_eq_some_iff.mp h).1]; exact h
  · rename_i e; rw [if_neg e]; exact h
theorem Wd.new_all (ok : OkW c w) {p : Addr} {o : HO} {k : Cell} (h : w.H p = none) (hr : w.s.rs ≠ [])
    (hk : ∀ w' : Wd, Ext w w' → w'.H p = some o → CellR c w' p k) (hb : ∀ u ∈ k.us, ∃ v, RU c w u v) : ∃ s', alloc k w.s = .ok (.r (w.s.rs.length - 1) ((w.s.rs.headD []).length)) s' ∧ (w.new p o k).s = s' ∧ OkW c (w.new p o k) ∧ Ext w (w.new p o k) ∧ getL (w.new p o k).ι (w.s.rs.length - 1) ((w.s.rs.headD []).length) = some p ∧ (w.new p o k).H = L2.upd w.H p o := by
  obtain ⟨H, ι, ⟨rs, lk⟩, zp⟩ := w
  cases rs with
  | nil => exact absurd rfl hr
  | cons r l =>
    cases ι with
    | nil => have := ok.shape; simp at this
    | cons ic il =>
      have hs : il.map List.length = l.map List.length ∧ ic.length = r.length := by
        have := ok.shape; simp only [List.map_cons, List.cons.injEq] at this; exact ⟨this.2, this.1⟩
      have hl : il.length = l.length := by simpa using congrArg List.length hs.1
      have fr : ∀ g i a, getL (ic :: il) g i = some a → ∀ k', getL (r :: l) g i = some k' → k' ≠ .gone → a ≠ p := fun g i a e k' e' n q => by
        obtain ⟨x, e2⟩ := (CellR.has (ok.cell g i a k' e e') n)
        rw [q] at e2; exact absurd (show H p = none from h) (by rw [show H p = some x from e2]; exact fun z => by cases z)
      have lv : ∀ a, LiveC (Wd.new ⟨H, ic :: il, ⟨r :: l, lk⟩, zp⟩ p o k) a → LiveC ⟨H, ic :: il, ⟨r :: l, lk⟩, zp⟩ a ∨ a = p := fun a ⟨g, i, k', e1, e2, n'⟩ => by
        rcases getL_push (show getL ((ic ++ [p]) :: il) g i = some a from e1) with e1 | ⟨_, _, e3⟩
        · rcases getL_push (show getL ((r ++ [k]) :: l) g i = some k' from e2) with e2 | ⟨e4, e5, _⟩
          · exact .inl ⟨g, i, k', e1, e2, n'⟩
          · rw [e4, ← hl, getL_top] at e1
            have := (List.getElem?_eq_some_iff.mp e1).1
            omega
        · exact .inr e3
      have x : Ext ⟨H, ic :: il, ⟨r :: l, lk⟩, zp⟩ (Wd.new ⟨H, ic :: il, ⟨r :: l, lk⟩, zp⟩ p o k) := by
        refine ⟨fun a y e n => ⟨?_, fun q => ?_⟩, fun g i a e => getL_push_old e, rfl, rfl, fun g i k' _ e => getL_push_old e, rfl, fun a m => by obtain ⟨x, e⟩ := (ok.zs a m).1; show L2.upd H p o a = _; rw [L2.upd_ne (L2.ne_of_none e h)]⟩
        · show L2.upd H p o a = some y
          rw [L2.upd_ne (L2.ne_of_none e h)]; exact e
        · rcases q with q | q
          · rcases lv a q with q | q
            · exact n (.inl q)
            · exact L2.ne_of_none e h q
          · exact n (.inr q)
      refine ⟨_, rfl, rfl, ⟨?_, fun g i a k' e1 e2 => ?_, fun g i g' i' a k1 k2 e1 e2 e3 e4 n1 n2 => ?_, fun g i k' e u hu => ?_, fun a m => ⟨by obtain ⟨x, e⟩ := (ok.zs a m).1; exact ⟨x, by show L2.upd H p o a = _; rw [L2.upd_ne (L2.ne_of_none e h)]; exact e⟩, fun q => (lv a q).elim (ok.zs a m).2 (fun q => by obtain ⟨x, e⟩ := (ok.zs a m).1; exact L2.ne_of_none e h q)⟩⟩, x, ?_, rfl⟩
      · show ((ic ++ [p]) :: il).map List.length = ((r ++ [k]) :: l).map List.length
        simp [hs.1, hs.2]
      · rcases getL_push (show getL ((r ++ [k]) :: l) g i = some k' from e2) with e2' | ⟨e4, e5, e6⟩
        · rcases getL_push (show getL ((ic ++ [p]) :: il) g i = some a from e1) with e1' | ⟨e7, e8, _⟩
          · by_cases n : k' = .gone
            · subst n; trivial
            · exact CellR.mono x.keeps x.io (by show L2.upd H p o a = H a; rw [L2.upd_ne (fr g i a e1' k' e2' n)]) (ok.cell g i a k' e1' e2')
          · rw [e7, hl, getL_top] at e2'
            have := (List.getElem?_eq_some_iff.mp e2').1
            omega
        · have e1' : a = p := by
            have e1' : getL ((ic ++ [p]) :: il) g i = some a := e1
            rw [e4, ← hl, getL_top, e5, ← hs.2] at e1'
            simpa using e1'.symm
          rw [e1', e6]
          exact hk _ x L2.upd_same
      · have key : ∀ g i k1, getL ((ic ++ [p]) :: il) g i = some a → getL ((r ++ [k]) :: l) g i = some k1 → k1 ≠ .gone → (getL (ic :: il) g i = some a ∧ getL (r :: l) g i = some k1 ∧ a ≠ p) ∨ (g = l.length ∧ i = r.length ∧ a = p) := fun g i k1 e1 e2 n => by
          rcases getL_push e1 with e1 | ⟨q1, q2, q3⟩
          · rcases getL_push e2 with e2 | ⟨q1, q2, q3⟩
            · exact .inl ⟨e1, e2, fr g i a e1 k1 e2 n⟩
            · rw [q1, ← hl, getL_top] at e1
              have := (List.getElem?_eq_some_iff.mp e1).1
              omega
          · exact .inr ⟨q1.trans hl, q2.trans hs.2, q3⟩
        rcases key g i k1 e1 e3 n1 with ⟨a1, a2, a3⟩ | ⟨a1, a2, a3⟩ <;> rcases key g' i' k2 e2 e4 n2 with ⟨b1, b2, b3⟩ | ⟨b1, b2, b3⟩
        · exact ok.inj g i g' i' a k1 k2 a1 b1 a2 b2 n1 n2
        · exact absurd b3 a3
        · exact absurd a3 b3
        · exact ⟨a1.trans b1.symm, a2.trans b2.symm⟩
      · rcases getL_push (show getL ((r ++ [k]) :: l) g i = some k' from e) with e2 | ⟨e4, e5, e6⟩
        · exact ok.low g i k' e2 u hu
        · rw [e6] at hu
          obtain ⟨v, rv⟩ := hb u hu
          cases rv with
          | d => rfl
          | r e =>
            have := getL_lt (show getL (ic :: il) _ _ = _ from e)
            rw [List.length_cons] at this
            exact decide_eq_true (by rw [e4]; omega)
      · show getL ((ic ++ [p]) :: il) ((r :: l).length - 1) r.length = some p
        rw [show (r :: l).length - 1 = il.length by rw [List.length_cons, hl]; omega, getL_top, ← hs.2]
        simp

/-! ### a cell changed, closed up -/
def Wd.put (w : Wd) (a : Addr) (o : HO) (g i : Nat) (k : Cell) : Wd := ⟨L2.upd w.H a o, w.ι, w.s.set g i k, w.z⟩
theorem Wd.put_lv {a : Addr} {o : HO} {g i : Nat} {k k0 : Cell} (hk : getL w.s.rs g i = some k0) (n0 : k0 ≠ .gone) {b : Addr} (q : LiveC (w.put a o g i k) b) : LiveC w b := by
  obtain ⟨g', i', k', e1, e2, n'⟩ := q
  have e2 : getL (setL w.s.rs g i k) g' i' = some k' := e2
  rw [getL_set hk] at e2
  split at e2
  · rename_i q
    obtain ⟨rfl, rfl⟩ := q
    exact ⟨g, i, k0, e1, hk, n0⟩
  · exact ⟨g', i', k', e1, e2, n'⟩
theorem Wd.put_ext (ok : OkW c w) {a : Addr} {o : HO} {g i : Nat} {k k0 : Cell} (ha : getL w.ι g i = some a) (hk : getL w.s.rs g i = some k0) (n0 : k0 ≠ .gone) (nl : (g, i) ∉ w.s.lk) : Ext w (w.put a o g i k) where
  keep := fun b x e n => ⟨by
    show L2.upd w.H a o b = some x
    rw [L2.upd_ne fun z => n (by rw [z]; exact .inl ⟨g, i, k0, ha, hk, n0⟩)]; exact e, fun q => n (q.imp (Wd.put_lv hk n0) id)⟩
  io := fun _ _ _ e => e
  len := rfl
  lk := rfl
  lkd := fun g' i' k' m e => by
    show getL (setL w.s.rs g i k) g' i' = some k'
    rw [getL_set hk, if_neg fun q => nl (by rw [q.1, q.2]; exact m)]
    exact e
  zz := rfl
  zk := fun b m => by
    show L2.upd w.H a o b = _
    rw [L2.upd_ne fun z => (ok.zs b m).2 (by rw [z]; exact ⟨g, i, k0, ha, hk, n0⟩)]
theorem Wd.put_ok (ok : OkW c w) {a : Addr} {o : HO} {g i : Nat} {k k0 : Cell} (ha : getL w.ι g i = some a) (hk : getL w.s.rs g i = some k0) (n0 : k0 ≠ .gone) (nl : (g, i) ∉ w.s.lk)
    (hcell : ∀ w' : Wd, Ext w w' → w'.H a = some o → CellR c w' a k) (hb : ∀ u ∈ k.us, U.below g u = true) : OkW c (w.put a o g i k) := by
  have x := Wd.put_ext (o := o) (k := k) ok ha hk n0 nl
  refine ⟨?_, fun g' i' b k' e1 e2 => ?_, fun g1 i1 g2 i2 b k1 k2 e1 e2 e3 e4 n1 n2 => ?_, fun g' i' k' e u hu => ?_, fun b m => ⟨by rw [x.zk b m]; exact (ok.zs b m).1, fun q => (ok.zs b m).2 (Wd.put_lv hk n0 q)⟩⟩
  · show w.ι.map _ = (setL w.s.rs g i k).map _
    rw [setL_shape]; exact ok.shape
  · replace e2 : getL (setL w.s.rs g i k) g' i' = some k' := e2
    rw [getL_set hk] at e2
    split at e2
    · rename_i q
      obtain ⟨rfl, rfl⟩ := q
      cases e2
      replace e1 : getL w.ι g i = some b := e1
      rw [ha] at e1; cases e1
      exact hcell _ x L2.upd_same
    · rename_i q
      by_cases n : k' = .gone
      · subst n; trivial
      · refine CellR.mono x.keeps x.io ?_ (ok.cell g' i' b k' e1 e2)
        show L2.upd w.H a o b = w.H b
        rw [L2.upd_ne fun z => ?_]
        subst z
        exact q ((ok.inj g i g' i' b k0 k' ha e1 hk e2 n0 n))
  · have e3 : getL (setL w.s.rs g i k) g1 i1 = some k1 := e3
    have e4 : getL (setL w.s.rs g i k) g2 i2 = some k2 := e4
    have key : ∀ g1 i1 k1, getL (setL w.s.rs g i k) g1 i1 = some k1 → k1 ≠ .gone → ∃ k', getL w.s.rs g1 i1 = some k' ∧ k' ≠ .gone := fun g1 i1 k1 e n => by
      rw [getL_set hk] at e
      split at e
      · rename_i q
        obtain ⟨rfl, rfl⟩ := q
        exact ⟨k0, hk, n0⟩
      · exact ⟨k1, e, n⟩
    obtain ⟨k1', a1, b1⟩ := key _ _ _ e3 n1
    obtain ⟨k2', a2, b2⟩ := key _ _ _ e4 n2
    exact ok.inj g1 i1 g2 i2 b k1' k2' e1 e2 a1 a2 b1 b2
  · replace e : getL (setL w.s.rs g i k) g' i' = some k' := e
    rw [getL_set hk] at e
    split at e
    · rename_i q
      obtain ⟨rfl, rfl⟩ := q
      cases e
      exact hb u hu
    · exact ok.low g' i' k' e u hu
/-- closed up -/
def Wd.rel (w : Wd) (g i : Nat) : Wd := ⟨w.H, w.ι, w.s.set g i .gone, w.z⟩
theorem Wd.rel_lv {g i : Nat} {k0 : Cell} (hk : getL w.s.rs g i = some k0) {b : Addr} (q : LiveC (w.rel g i) b) : LiveC w b := by
  obtain ⟨g', i', k', e1, e2, n'⟩ := q
  have e2 : getL (setL w.s.rs g i .gone) g' i' = some k' := e2
  rw [getL_set hk] at e2
  split at e2
  · cases e2; exact absurd rfl n'
  · exact ⟨g', i', k', e1, e2, n'⟩
theorem Wd.rel_ext (ok : OkW c w) {g i : Nat} {k0 : Cell} (hk : getL w.s.rs g i = some k0) (nl : (g, i) ∉ w.s.lk) : Ext w (w.rel g i) where
  keep := fun b x e n => ⟨e, fun q => n (q.imp (Wd.rel_lv hk) id)⟩
  io := fun _ _ _ e => e
  len := rfl
  lk := rfl
  lkd := fun g' i' k' m e => by
    show getL (setL w.s.rs g i .gone) g' i' = some k'
    rw [getL_set hk, if_neg fun q => nl (by rw [q.1, q.2]; exact m)]
    exact e
  zz := rfl
  zk := fun _ _ => rfl
theorem Wd.rel_ok (ok : OkW c w) {g i : Nat} {k0 : Cell} (hk : getL w.s.rs g i = some k0) (nl : (g, i) ∉ w.s.lk) : OkW c (w.rel g i) := by
  have x := Wd.rel_ext ok hk nl
  have key : ∀ g1 i1 k1, getL (setL w.s.rs g i .gone) g1 i1 = some k1 → k1 ≠ .gone → getL w.s.rs g1 i1 = some k1 := fun g1 i1 k1 e n => by
    rw [getL_set hk] at e
    split at e
    · cases e; exact absurd rfl n
    · exact e
  refine ⟨?_, fun g' i' b k' e1 e2 => ?_, fun g1 i1 g2 i2 b k1 k2 e1 e2 e3 e4 n1 n2 => ok.inj g1 i1 g2 i2 b k1 k2 e1 e2 (key _ _ _ e3 n1) (key _ _ _ e4 n2) n1 n2, fun g' i' k' e u hu => ?_, fun b m => ⟨(ok.zs b m).1, fun q => (ok.zs b m).2 (Wd.rel_lv hk q)⟩⟩
  · show w.ι.map _ = (setL w.s.rs g i .gone).map _
    rw [setL_shape]; exact ok.shape
  · by_cases n : k' = .gone
    · subst n; trivial
    · exact CellR.mono x.keeps x.io rfl (ok.cell g' i' b k' e1 (key _ _ _ e2 n))
  · by_cases n : k' = .gone
    · subst n; cases hu
    · exact ok.low g' i' k' (key _ _ _ e n) u hu
theorem Wd.rel_dead (ok : OkW c w) {a : Addr} {g i : Nat} {k0 : Cell} (ha : getL w.ι g i = some a) (hk : getL w.s.rs g i = some k0) (n0 : k0 ≠ .gone) : ¬ Live (w.rel g i) a := fun q => by
  rcases q with ⟨g', i', k', e1, e2, n'⟩ | q
  · have e2 : getL (setL w.s.rs g i .gone) g' i' = some k' := e2
    rw [getL_set hk] at e2
    split at e2
    · cases e2; exact n' rfl
    · rename_i q
      exact q (ok.inj g i g' i' a k0 k' ha e1 hk e2 n0 n')
  · exact (ok.zs a q).2 ⟨g, i, k0, ha, hk, n0⟩
theorem Stk.eta (s : Stk) : (⟨s.rs, s.lk⟩ : Stk) = s := rfl
def frzL (n : Nat) (us : List U) (s0 : Stk) : Option (List D × Stk) :=
  us.foldr (fun u o => match o with | some (l, s) => (match frz n s u with | some (x, s') => some (x :: l, s') | none => none) | none => none) (some ([], s0))
theorem frzL_cons {n : Nat} {u : U} {us : List U} {s0 s' : Stk} {l : List D} (h : frzL n (u :: us) s0 = some (l, s')) : ∃ l1 s1 x, frzL n us s0 = some (l1, s1) ∧ frz n s1 u = some (x, s') ∧ l = x :: l1 := by
  have h : (match frzL n us s0 with | some (l, s) => (match frz n s u with | some (x, s') => some (x :: l, s') | none => none) | none => none) = some (l, s') := h
  cases e : frzL n us s0 with
  | none => rw [e] at h; cases h
  | some p =>
    obtain ⟨l1, s1⟩ := p
    rw [e] at h
    cases e2 : frz n s1 u with
    | none => simp only [e2] at h; cases h
    | some q =>
      obtain ⟨x, s2⟩ := q
      simp only [e2, Option.some.injEq, Prod.mk.injEq] at h
      exact ⟨l1, s1, x, rfl, by rw [e2, h.2], h.1.symm⟩
theorem frz_cell {n : Nat} {s s' : Stk} {g i : Nat} {x : D} (h : frz (n + 1) s (.r g i) = some (x, s')) : (g, i) ∉ s.lk ∧ ∃ k l, getL s.rs g i = some k ∧ k ≠ .gone ∧ frzL n k.us (s.set g i .gone) = some (l, s') ∧
    ((∃ us, k = .lst us ∧ x = .lst l) ∨ (∃ ks us, k = .dct ks us ∧ x = .dct ks l) ∨ ∃ cc us, k = .ins cc us ∧ x = .obj cc l) := by
  rw [frz] at h
  split at h
  · cases h
  rename_i hc
  refine ⟨fun z => hc (by simpa using z), ?_⟩
  cases e : getL s.rs g i with
  | none => rw [e] at h; cases h
  | some k =>
    rw [e] at h
    cases k with
    | gone => cases h
    | lst us =>
      have h : (match frzL n us (s.set g i .gone) with | some (l, s') => some (D.lst l, s') | none => none) = some (x, s') := h
      cases e2 : frzL n us (s.set g i .gone) with
      | none => rw [e2] at h; cases h
      | some p =>
        obtain ⟨l, s2⟩ := p
        rw [e2] at h
        cases h
        exact ⟨_, l, rfl, (fun z => by cases z), e2, .inl ⟨us, rfl, rfl⟩⟩
    | dct ks us =>
      have h : (match frzL n us (s.set g i .gone) with | some (l, s') => some (D.dct ks l, s') | none => none) = some (x, s') := h
      cases e2 : frzL n us (s.set g i .gone) with
      | none => rw [e2] at h; cases h
      | some p =>
        obtain ⟨l, s2⟩ := p
        rw [e2] at h
        cases h
        exact ⟨_, l, rfl, (fun z => by cases z), e2, .inr (.inl ⟨ks, us, rfl, rfl⟩)⟩
    | ins cc us =>
      have h : (match frzL n us (s.set g i .gone) with | some (l, s') => some (D.obj cc l, s') | none => none) = some (x, s') := h
      cases e2 : frzL n us (s.set g i .gone) with
      | none => rw [e2] at h; cases h
      | some p =>
        obtain ⟨l, s2⟩ := p
        rw [e2] at h
        cases h
        exact ⟨_, l, rfl, (fun z => by cases z), e2, .inr (.inr ⟨cc, us, rfl, rfl⟩)⟩
/-- the same heap, other cells -/
def Wd.st (w : Wd) (s : Stk) : Wd := ⟨w.H, w.ι, s, w.z⟩
theorem Wd.st_st (w : Wd) (s t : Stk) : (w.st s).st t = w.st t := rfl
mutual
theorem frz_ok : ∀ (n : Nat) (w : Wd) (u : U) (v : V) (x : D) (s' : Stk), OkW c w → RU c w u v → frz n w.s u = some (x, s') → OkW c (w.st s') ∧ Ext w (w.st s') ∧ RD c w.H (Live (w.st s')) x v
  | n, w, .d y, v, x, s', ok, r, h => by
    have e : frz n w.s (.d y) = some (y, w.s) := by cases n <;> rfl
    rw [e] at h
    cases h
    cases r with
    | d r => exact ⟨ok, .refl w, r⟩
  | 0, w, .r g i, v, x, s', ok, r, h => by cases h
  | n + 1, w, .r g i, v, x, s', ok, r, h => by
    obtain ⟨nl, k, l, hk, n0, hl, hx⟩ := frz_cell h
    cases r with
    | @r _ _ a ha =>
      have x1 := Wd.rel_ext ok hk nl
      have ok1 := Wd.rel_ok ok hk nl
      have dead := Wd.rel_dead ok ha hk n0
      have cr := ok.cell g i a k ha hk
      have fin : ∀ vs, RUs c (w.rel g i) k.us vs → OkW c (w.st s') ∧ Ext w (w.st s') ∧ RDs c w.H (Live (w.st s')) l vs ∧ ¬ Live (w.st s') a := fun vs rv => by
        obtain ⟨a1, a2, a3⟩ := frzL_ok n (w.rel g i) k.us vs l s' ok1 rv hl
        refine ⟨a1, x1.trans a2, a3, ?_⟩
        obtain ⟨y, hy⟩ := CellR.has cr n0
        exact (a2.keep a y hy dead).2
      rcases hx with ⟨us, rfl, rfl⟩ | ⟨ks, us, rfl, rfl⟩ | ⟨cc, us, rfl, rfl⟩
      · obtain ⟨vs, h1, h2, h3⟩ := cr
        obtain ⟨b1, b2, b3, b4⟩ := fin vs (h3.mono x1)
        exact ⟨b1, b2, .lst ⟨h1, b4⟩ h2 b3⟩
      · obtain ⟨kvs, h1, h2, h3, h4, h5⟩ := cr
        obtain ⟨b1, b2, b3, b4⟩ := fin _ (h5.mono x1)
        exact ⟨b1, b2, .dct ⟨.inl h1, b4⟩ h2 h3 h4 b3⟩
      · obtain ⟨dx, fs, h1, h2, h3, h4⟩ := cr
        obtain ⟨b1, b2, b3, b4⟩ := fin _ (h4.mono x1)
        refine ⟨b1, b2, .obj ⟨h1, b4⟩ ?_ b3⟩
        rw [h2]
        have e1 : us.length = fs.length := by have := h4.length; rw [List.length_map] at this; exact this
        have e2 : l.length = fs.length := by have := b3.length; rw [List.length_map] at this; exact this
        rw [e1, e2]
theorem frzL_ok : ∀ (n : Nat) (w : Wd) (us : List U) (vs : List V) (xs : List D) (s' : Stk), OkW c w → RUs c w us vs → frzL n us w.s = some (xs, s') → OkW c (w.st s') ∧ Ext w (w.st s') ∧ RDs c w.H (Live (w.st s')) xs vs
  | n, w, [], vs, xs, s', ok, r, h => by
    cases h
    cases r
    exact ⟨ok, .refl w, .nil⟩
  | n, w, u :: us, vs, xs, s', ok, r, h => by
    obtain ⟨l1, s1, x, h1, h2, rfl⟩ := frzL_cons h
    cases r with
    | cons r rs =>
      obtain ⟨a1, a2, a3⟩ := frzL_ok n w us _ l1 s1 ok rs h1
      obtain ⟨b1, b2, b3⟩ := frz_ok n (w.st s1) u _ x s' a1 (r.mono a2) h2
      exact ⟨b1, a2.trans b2, .cons b3 (a3.mono b2.keeps)⟩
end

/-! ### a call's region -/
def Wd.push (w : Wd) : Wd := ⟨w.H, [] :: w.ι, ⟨[] :: w.s.rs, w.s.lk⟩, w.z⟩
def Wd.pop (w : Wd) : Wd := ⟨w.H, w.ι.tail, ⟨w.s.rs.tail, w.s.lk⟩, w.z⟩
theorem getL_nil {α : Type} {l : List (List α)} {g i : Nat} : getL ([] :: l) g i = if g = l.length then none else getL l g i := by
  rw [getL]
  split
  · simp
  · rfl
theorem getL_push' {α : Type} {d : List α} {l : List (List α)} {g i : Nat} {a : α} (h : getL l g i = some a) : getL (d :: l) g i = some a := by
  rw [getL_low (Nat.ne_of_lt (getL_lt h))]; exact h
theorem Wd.push_liveC {a : Addr} : LiveC w.push a ↔ LiveC w a := by
  constructor
  · rintro ⟨g, i, k, e1, e2, n⟩
    have e1 : getL ([] :: w.ι) g i = some a := e1
    have e2 : getL ([] :: w.s.rs) g i = some k := e2
    rw [getL_nil] at e1 e2
    split at e1
    · cases e1
    split at e2
    · cases e2
    exact ⟨g, i, k, e1, e2, n⟩
  · rintro ⟨g, i, k, e1, e2, n⟩
    exact ⟨g, i, k, getL_push' e1, getL_push' e2, n⟩
theorem Wd.push_live {a : Addr} : Live w.push a ↔ Live w a := ⟨fun h => h.imp Wd.push_liveC.mp id, fun h => h.imp Wd.push_liveC.mpr id⟩
theorem Wd.push_keeps : Keeps w.H w.push.H (Live w) (Live w.push) := fun a n => ⟨fun u _ h => ⟨h, fun l => n (Wd.push_live.mp l)⟩, fun _ _ _ h => h, fun _ h => h⟩
theorem Wd.push_io : ∀ g i a, getL w.ι g i = some a → getL w.push.ι g i = some a := fun _ _ _ e => getL_push' e
theorem Wd.push_ok (ok : OkW c w) : OkW c w.push where
  shape := by show List.map _ ([] :: w.ι) = List.map _ ([] :: w.s.rs); simp [ok.shape]
  cell := fun g i a k e1 e2 => by
    have e1 : getL ([] :: w.ι) g i = some a := e1
    have e2 : getL ([] :: w.s.rs) g i = some k := e2
    rw [getL_nil] at e1 e2
    split at e1
    · cases e1
    split at e2
    · cases e2
    exact CellR.mono Wd.push_keeps Wd.push_io rfl (ok.cell g i a k e1 e2)
  inj := fun g i g' i' a k k' e1 e2 e3 e4 n1 n2 => by
    have e1 : getL ([] :: w.ι) g i = some a := e1
    have e2 : getL ([] :: w.ι) g' i' = some a := e2
    have e3 : getL ([] :: w.s.rs) g i = some k := e3
    have e4 : getL ([] :: w.s.rs) g' i' = some k' := e4
    rw [getL_nil] at e1 e2 e3 e4
    split at e1
    · cases e1
    split at e2
    · cases e2
    split at e3
    · cases e3
    split at e4
    · cases e4
    exact ok.inj g i g' i' a k k' e1 e2 e3 e4 n1 n2
  low := fun g i k e u hu => by
    have e : getL ([] :: w.s.rs) g i = some k := e
    rw [getL_nil] at e
    split at e
    · cases e
    exact ok.low g i k e u hu
  zs := fun a m => ⟨(ok.zs a m).1, fun q => (ok.zs a m).2 (Wd.push_liveC.mp q)⟩
theorem Wd.pop_liveC {a : Addr} (h : LiveC w.pop a) : LiveC w a := by
  obtain ⟨g, i, k, e1, e2, n⟩ := h
  obtain ⟨H, ι, ⟨rs, lk⟩, zp⟩ := w
  cases ι with
  | nil => cases e1
  | cons d ι =>
    cases rs with
    | nil => cases e2
    | cons r rs => exact ⟨g, i, k, getL_push' e1, getL_push' e2, n⟩
theorem Wd.pop_live {a : Addr} (h : Live w.pop a) : Live w a := h.imp Wd.pop_liveC id
theorem Wd.pop_keeps : Keeps w.H w.pop.H (Live w) (Live w.pop) := fun a n => ⟨fun u _ h => ⟨h, fun l => n (Wd.pop_live l)⟩, fun _ _ _ h => h, fun _ h => h⟩
theorem Wd.pop_ok (ok : OkW c w) (hn : w.ι ≠ []) : OkW c w.pop := by
  obtain ⟨H, ι, ⟨rs, lk⟩, zp⟩ := w
  cases ι with
  | nil => exact absurd rfl hn
  | cons d ι =>
    cases rs with
    | nil => have := ok.shape; simp at this
    | cons r rs =>
      have sh := ok.shape
      simp only [List.map_cons, List.cons.injEq] at sh
      have hl : ι.length = rs.length := by simpa using congrArg List.length sh.2
      refine ⟨sh.2, fun g i a k e1 e2 => ?_, fun g i g' i' a k k' e1 e2 e3 e4 n1 n2 => ok.inj g i g' i' a k k' (getL_push' e1) (getL_push' e2) (getL_push' e3) (getL_push' e4) n1 n2, fun g i k e u hu => ok.low g i k (getL_push' e) u hu, fun a m => ⟨(ok.zs a m).1, fun q => (ok.zs a m).2 (Wd.pop_liveC (w := ⟨H, d :: ι, ⟨r :: rs, lk⟩, zp⟩) q)⟩⟩
      have cr := ok.cell g i a k (getL_push' e1) (getL_push' e2)
      have low := ok.low g i k (getL_push' e2)
      have lt : g < ι.length := getL_lt (show getL ι g i = _ from e1)
      have K := Wd.pop_keeps (w := ⟨H, d :: ι, ⟨r :: rs, lk⟩, zp⟩)
      have go : ∀ (us : List U) (vs : List V), (∀ u ∈ us, U.below g u = true) → RUs c ⟨H, d :: ι, ⟨r :: rs, lk⟩, zp⟩ us vs → RUs c (Wd.pop ⟨H, d :: ι, ⟨r :: rs, lk⟩, zp⟩) us vs := fun us vs hb rv => by
        induction rv with
        | nil => exact .nil
        | cons h _ ih =>
          refine .cons ?_ (ih fun u hu => hb u (List.mem_cons_of_mem _ hu))
          cases h with
          | d h => exact .d (h.mono K)
          | @r g' i' a' e =>
            have q : g' ≤ g := of_decide_eq_true (hb _ (List.mem_cons_self ..))
            have e : getL (d :: ι) g' i' = some a' := e
            rw [getL_low (by omega)] at e
            exact .r e
      cases k with
      | gone => trivial
      | lst us => obtain ⟨vs, h1, h2, h3⟩ := cr; exact ⟨vs, h1, h2, go _ _ low h3⟩
      | dct ks us => obtain ⟨vs, h1, h2, h3, h4, h5⟩ := cr; exact ⟨vs, h1, h2, h3, h4, go _ _ low h5⟩
      | ins k us => obtain ⟨dx, fs, h1, h2, h3, h4⟩ := cr; exact ⟨dx, fs, h1, h2, h3, go _ _ low h4⟩
theorem OkW.rlen (ok : OkW c w) : w.s.rs.length = w.ι.length := by simpa using (congrArg List.length ok.shape).symm
theorem Wd.pop_ext {w2 : Wd} (ok : OkW c w) (ok2 : OkW c w2) (x : Ext w.push w2) : Ext w w2.pop where
  keep := fun a y e n => by
    have q := x.keep a y e fun l => n (Wd.push_live.mp l)
    exact ⟨q.1, fun l => q.2 (Wd.pop_live l)⟩
  io := fun g i a e => by
    have q := x.io g i a (getL_push' e)
    have len := x.len
    obtain ⟨H, ι, s, zp⟩ := w2
    cases ι with
    | nil => cases q
    | cons d ι =>
      have len : (d :: ι).length = ([] :: w.ι).length := len
      simp only [List.length_cons] at len
      show getL ι g i = some a
      have q : getL (d :: ι) g i = some a := q
      rw [getL_low (by have := getL_lt e; omega)] at q
      exact q
  len := by
    have len := x.len
    have len : w2.ι.length = ([] :: w.ι).length := len
    show w2.ι.tail.length = _
    rw [List.length_tail, len]; rfl
  lk := x.lk
  lkd := fun g i k m e => by
    have q := x.lkd g i k m (getL_push' e)
    have len : w2.ι.length = w.ι.length + 1 := x.len
    have l2 := ok2.rlen
    have l1 := ok.rlen
    have lt := getL_lt e
    obtain ⟨H, ι, ⟨rs, lk⟩, zp⟩ := w2
    cases rs with
    | nil => cases q
    | cons r rs =>
      show getL rs g i = some k
      replace q : getL (r :: rs) g i = some k := q
      replace l2 : (r :: rs).length = ι.length := l2
      replace len : ι.length = w.ι.length + 1 := len
      rw [List.length_cons] at l2
      rw [getL_low (by omega)] at q
      exact q
  zz := x.zz
  zk := x.zk
/-! ### locks -/
def Wd.lock (w : Wd) (l : List (Nat × Nat)) : Wd := ⟨w.H, w.ι, w.s.lock l, w.z⟩
theorem Wd.lock_ok (ok : OkW c w) (l : List (Nat × Nat)) : OkW c (w.lock l) := ⟨ok.shape, fun g i a k e1 e2 => CellR.mono (w := w) (fun a n => ⟨fun u _ h => ⟨h, n⟩, fun _ _ _ h => h, fun _ h => h⟩) (fun _ _ _ e => e) rfl (ok.cell g i a k e1 e2), ok.inj, ok.low, ok.zs⟩
theorem Wd.st_ok (ok : OkW c w) (l : List (Nat × Nat)) : OkW c (w.st (w.s.unlock l)) := ⟨ok.shape, fun g i a k e1 e2 => CellR.mono (w := w) (fun a n => ⟨fun u _ h => ⟨h, n⟩, fun _ _ _ h => h, fun _ h => h⟩) (fun _ _ _ e => e) rfl (ok.cell g i a k e1 e2), ok.inj, ok.low, ok.zs⟩
theorem Wd.unlock_ext {w' : Wd} {l : List (Nat × Nat)} (x : Ext (w.lock l) w') : Ext w (w'.st (w'.s.unlock w.s.lk)) :=
  ⟨fun a y e n => x.keep a y e n, x.io, x.len, rfl, fun g i k m e => x.lkd g i k (List.mem_append_right _ m) e, x.zz, x.zk⟩
end
end Z
end

section
set_option autoImplicit false
set_option linter.all false
set_option maxRecDepth 100000
namespace Z
open PySem (Str sizeLine Value Addr PyData)
open L2 (V HO Hp Key Cx)
theorem big_line : big = sizeLine := by decide +kernel
/-- an exception: its class, its own dict with its fields -/
def RX (c : Cfg) (w : Wd) (k : Nat) (vs : List D) (cls : Value) (d : Option Addr) : Prop :=
  cls = .ref (c.ca k) ∧ k ∈ c.xs ∧ (if c.fl k = [] then d = none ∧ vs = [] else ∃ (dd : Addr) (fs : List (Str × V)), d = some dd ∧ w.H dd = some (.xd fs) ∧ ¬ Live w dd ∧ fs.map (·.1) = c.fl k ∧ RDs c w.H (Live w) vs (fs.map (·.2)))
def OutE {α β : Type} (c : Cfg) (W : L2.XK) (w : Wd) (R : Wd → α → β → Prop) : RE α → (β → Hp → Prop) → Prop
  | .ok u s', Q => ∀ (w' : Wd) (v : β), w'.s = s' → OkW c w' → Ext w w' → R w' u v → Q v w'.H
  | .ex k vs s', _ => ∀ (w' : Wd) (cls : Value) (dx : Option Addr), w'.s = s' → OkW c w' → Ext w w' → RX c w' k vs cls dx → W cls dx w'.H
  | .no, _ => False
section
variable {α β γ δ : Type} {c : Cfg} {W : L2.XK} {w w1 : Wd} {R : Wd → α → β → Prop} {R' : Wd → γ → δ → Prop}
theorem OutE.mono {r : RE α} {Q : β → Hp → Prop} (x : Ext w w1) (h : OutE c W w R r Q) : OutE c W w1 R r Q := by
  cases r with
  | ok u s' => exact fun w' v e ok x' r => h w' v e ok (x.trans x') r
  | ex k vs s' => exact fun w' cls dx e ok x' r => h w' cls dx e ok (x.trans x') r
  | no => exact h
theorem OutE.bind {x : RE α} {f : α → Stk → RE γ} {Q : δ → Hp → Prop} {N : β → Hp → Prop} (h : OutE c W w R' (x.bind f) Q)
    (n : ∀ (w1 : Wd) (u : α) (v : β), OkW c w1 → Ext w w1 → R w1 u v → OutE c W w1 R' (f u w1.s) Q → N v w1.H) : OutE c W w R x N := by
  cases x with
  | ok u s' => exact fun w' v e ok x' r => n w' u v ok x' r (by rw [e]; exact OutE.mono x' h)
  | ex k vs s' => exact h
  | no => exact h
theorem OutE.of {o : Option α} {s : Stk} {f : α → Stk → RE γ} {Q : δ → Hp → Prop} (h : OutE c W w R' ((RE.of o s).bind f) Q) : ∃ a, o = some a ∧ OutE c W w R' (f a s) Q := by
  cases o with
  | none => exact h.elim
  | some a => exact ⟨a, rfl, h⟩
theorem OutE.of0 {o : Option α} {s : Stk} {Q : β → Hp → Prop} (h : OutE c W w R (RE.of o s) Q) : ∃ a, o = some a ∧ OutE c W w R (.ok a s) Q := by
  cases o with
  | none => exact h.elim
  | some a => exact ⟨a, rfl, h⟩
theorem OutE.ret {u : α} {v : β} {Q : β → Hp → Prop} (ok : OkW c w) (h : OutE c W w R (.ok u w.s) Q) (r : R w u v) : Q v w.H := h w v rfl ok (.refl w) r
theorem OutE.val {u : α} {v : β} {Q : β → Hp → Prop} (ok : OkW c w) (h : OutE c W w R (.ok u w.s) Q) {p : Addr} {o : HO} (hp : w.H p = none) (r : R (w.val p o) u v) : Q v (L2.upd w.H p o) :=
  h (w.val p o) v rfl (w.val_ok ok hp) (w.val_ext ok hp) r
end
section
variable {c : Cfg} {W : L2.XK} {w : Wd}
theorem lstOf_ok (ok : OkW c w) {u : U} {v : V} {us : List U} (r : RU c w u v) (h : lstOf w.s u = some us) : ∃ a vs, v = .ref a ∧ L2.SqL c.K w.H a vs ∧ RUs c w us vs ∧ vs.length ≤ sizeLine := by
  cases r with
  | d r =>
    cases r with
    | lst h1 h2 h3 =>
      cases h
      exact ⟨_, _, rfl, .inl (.inl h1.1), .of_d h3, h2⟩
    | @scr xs a h1 h2 =>
      cases h
      refine ⟨_, _, rfl, h1.imp (fun h => h.1) id, ?_, by rw [List.length_map]; exact h2⟩
      clear h1 h2
      induction xs with
      | nil => exact .nil
      | cons x xs ih => exact .cons (.d (.int x)) ih
    | _ => cases h
  | @r g i a e =>
    rw [lstOf] at h
    cases e2 : getL w.s.rs g i with
    | none => rw [e2] at h; cases h
    | some k =>
      rw [e2] at h
      cases k with
      | lst xs =>
        cases h
        obtain ⟨vs, h1, h2, h3⟩ := ok.cell g i a _ e e2
        exact ⟨_, _, rfl, .inl (.inl h1), h3, h2⟩
      | _ => cases h
theorem lstW_of {s : Stk} {u : U} {us : List U} (h : lstW s u = some us) : lstOf s u = some us := by
  cases u with
  | d x => cases x <;> first | exact h | cases h
  | r g i => exact h
theorem lstW_ok (ok : OkW c w) {u : U} {v : V} {us : List U} (r : RU c w u v) (h : lstW w.s u = some us) : ∃ a vs, v = .ref a ∧ w.H a = some (.lst vs) ∧ RUs c w us vs ∧ vs.length ≤ sizeLine := by
  cases r with
  | d r =>
    cases r with
    | lst h1 h2 h3 =>
      cases h
      exact ⟨_, _, rfl, h1.1, .of_d h3, h2⟩
    | _ => cases h
  | @r g i a e =>
    rw [lstW, lstOf] at h
    cases e2 : getL w.s.rs g i with
    | none => rw [e2] at h; cases h
    | some k =>
      rw [e2] at h
      cases k with
      | lst xs =>
        cases h
        obtain ⟨vs, h1, h2, h3⟩ := ok.cell g i a _ e e2
        exact ⟨_, _, rfl, h1, h3, h2⟩
      | _ => cases h
    all_goals (intro; intros; contradiction)
theorem tupOf_ok (ok : OkW c w) {u : U} {v : V} {us : List U} (r : RU c w u v) (h : tupOf u = some us) : ∃ a vs, v = .ref a ∧ L2.SqT c.K w.H a vs ∧ RUs c w us vs ∧ vs.length ≤ sizeLine := by
  cases r with
  | d r =>
    cases r with
    | tup h1 h2 h3 =>
      cases h
      exact ⟨_, _, rfl, h1.imp (fun h => h.1) id, .of_d h3, h2⟩
    | _ => cases h
  | r e => cases h
theorem mkL_out (ok : OkW c w) {m : Md} {us : List U} {vs : List V} {Q : V → Hp → Prop} (rv : RUs c w us vs) (hz : vs.length ≤ sizeLine) (h : OutE c W w (RU c) (mkL m us w.s) Q) : ∀ p, w.H p = none → Q (.ref p) (L2.upd w.H p (.lst vs)) := by
  intro p hp
  cases m with
  | val =>
    rw [mkL] at h
    cases e : pus us with
    | none => rw [e] at h; exact h.elim
    | some xs =>
      rw [e] at h
      have x := w.val_ext (o := .lst vs) ok hp
      exact h.val ok hp (.d (.lst ⟨L2.upd_same, (w.val_free ok hp).2⟩ hz ((rv.pus e).mono x.keeps)))
  | cell =>
    rw [mkL] at h
    have hr : w.s.rs ≠ [] := fun z => by rw [alloc, z] at h; exact h
    obtain ⟨s', e1, e2, e3, e4, e5, e6⟩ := w.new_all (o := .lst vs) (k := .lst us) ok hp hr (fun w' x e => ⟨vs, e, hz, rv.mono x⟩) (fun u hu => by
      clear h
      induction rv with
      | nil => cases hu
      | cons r _ ih =>
        rcases List.mem_cons.mp hu with rfl | hu
        · exact ⟨_, r⟩
        · exact ih (by simp at hz; omega) hu)
    rw [e1] at h
    rw [← e6]
    exact h _ _ e2 e3 e4 (.r e5)
end
end Z
end

section
set_option autoImplicit false
set_option linter.all false
set_option maxRecDepth 100000
namespace Z
open PySem (Str sizeLine Value Addr PyData)
open L2 (V HO Hp Key Cx)
/-- a two-place operation on values keeps to g -/
def Leaf2 (X : Cx) (c : Cfg) (f : Value → Value → PySem.Sem Value) (g : Stk → U → U → RE U) : Prop :=
  ∃ r : L2.R2, L2.OpR X f r ∧ ∀ (W : L2.XK) (w : Wd) (u v : U) (x y : V) (Q : V → Hp → Prop), OkW c w → RU c w u x → RU c w v y → OutE c W w (RU c) (g w.s u v) Q → r x y w.H Q
/-- a call by values -/
def LeafC (X : Cx) (c : Cfg) (f : Value) (g : Stk → List U → RE U) : Prop :=
  ∃ r : List V → Hp → (V → Hp → Prop) → Prop, L2.CallR X f r ∧ ∀ (W : L2.XK) (w : Wd) (us : List U) (vs : List V) (Q : V → Hp → Prop), OkW c w → RUs c w us vs → OutE c W w (RU c) (g w.s us) Q → r vs w.H Q
section
variable {X : Cx} {c : Cfg}
theorem or2 {f : Value → Value → PySem.Sem Value} {r r' : L2.R2} (h : L2.OpR X f r) (h' : L2.OpR X f r') : L2.OpR X f (fun x y H Q => r x y H Q ∨ r' x y H Q) :=
  fun pins s σ H x y v u Q I rx ry q => q.elim (h pins s σ H x y v u Q I rx ry) (h' pins s σ H x y v u Q I rx ry)
theorem orC {f : Value} {r r' : List V → Hp → (V → Hp → Prop) → Prop} (h : L2.CallR X f r) (h' : L2.CallR X f r') : L2.CallR X f (fun x H Q => r x H Q ∨ r' x H Q) :=
  fun pins s σ H xs us Q I rx q => q.elim (h pins s σ H xs us Q I rx) (h' pins s σ H xs us Q I rx)
def never2 : L2.R2 := fun _ _ _ _ => False
theorem opNever {f : Value → Value → PySem.Sem Value} : L2.OpR X f never2 := fun _ _ _ _ _ _ _ _ _ _ _ _ q => q.elim
def opOf : BOp → PySem.Operator
  | .add => .Add | .sub => .Sub | .mul => .Mult | .mod => .Mod | .fdiv => .FloorDiv | .pow => .Pow | .bor => .BitOr | .band => .BitAnd | .shl => .LShift
/-- on ints -/
def rInt (o : BOp) : L2.R2 := fun x y H Q => ∃ i j k, x = .int i ∧ y = .int j ∧ intOp o i j = some k ∧ Q (.int k) H
theorem mulOk_ok {i j : Int} (h : mulOk i j = true) : L2.CMul i j := by
  unfold mulOk at h
  simp only [Bool.or_eq_true, Bool.and_eq_true, decide_eq_true_eq] at h
  exact h
theorem op_int (o : BOp) : L2.OpR X (PySem.binaryOp (opOf o)) (rInt o) := by
  intro pins s σ H x y v u Q I rx ry h
  obtain ⟨i, j, k, rfl, rfl, e, q⟩ := h
  cases o with
  | add => cases e; exact L2.op_add pins s σ H _ _ v u Q I rx ry ⟨i, j, rfl, rfl, q⟩
  | sub => cases e; exact L2.op_sub pins s σ H _ _ v u Q I rx ry ⟨i, j, rfl, rfl, q⟩
  | mul =>
    rw [intOp] at e
    split at e
    · rename_i z; cases e; exact L2.op_mul pins s σ H _ _ v u Q I rx ry ⟨i, j, rfl, rfl, mulOk_ok z, q⟩
    · cases e
  | mod =>
    rw [intOp] at e
    split at e
    · rename_i z; cases e; exact L2.op_mod pins s σ H _ _ v u Q I rx ry ⟨i, j, rfl, rfl, z, q⟩
    · cases e
  | fdiv =>
    rw [intOp] at e
    split at e
    · rename_i z; cases e; exact L2.op_fdiv pins s σ H _ _ v u Q I rx ry ⟨i, j, rfl, rfl, z, q⟩
    · cases e
  | pow =>
    rw [intOp] at e
    split at e
    · rename_i z; cases e; exact L2.op_pow pins s σ H _ _ v u Q I rx ry ⟨i, j, rfl, rfl, z, q⟩
    · cases e
  | _ => cases e
theorem iop_int (o : BOp) (ho : o = .add ∨ o = .sub ∨ o = .mul) : L2.OpR X (PySem.inplaceOp (opOf o)) (rInt o) := by
  intro pins s σ H x y v u Q I rx ry h
  obtain ⟨i, j, k, rfl, rfl, e, q⟩ := h
  rcases ho with rfl | rfl | rfl
  · cases e; exact L2.iop_add pins s σ H _ _ v u Q I rx ry ⟨i, j, rfl, rfl, q⟩
  · cases e; exact L2.iop_sub pins s σ H _ _ v u Q I rx ry ⟨i, j, rfl, rfl, q⟩
  · rw [intOp] at e
    split at e
    · rename_i z; cases e; exact L2.iop_mul pins s σ H _ _ v u Q I rx ry ⟨i, j, rfl, rfl, mulOk_ok z, q⟩
    · cases e
def rStr : L2.R2 := fun x y H Q => ∃ i j, x = .str i ∧ y = .str j ∧ i.length + j.length ≤ sizeLine ∧ Q (.str (i ++ j)) H
theorem sOf_len (x : S) : (sOf x).length = x.length := by simp [sOf, Str.length]
theorem sOf_app (x y : S) : sOf x ++ sOf y = sOf (x ++ y) := by
  show Str.append (sOf x) (sOf y) = _
  simp [Str.append, sOf]
theorem op_strs (o : BOp) : L2.OpR X (PySem.binaryOp (opOf o)) (fun x y H Q => o = .add ∧ rStr x y H Q) := by
  intro pins s σ H x y v u Q I rx ry h
  obtain ⟨rfl, h⟩ := h
  exact L2.op_add_str pins s σ H x y v u Q I rx ry h
theorem op_lists (o : BOp) : L2.OpR X (PySem.binaryOp (opOf o)) (fun x y H Q => (o = .add ∧ L2.rCat x y H Q) ∨ (o = .mul ∧ L2.rRep x y H Q)) := by
  intro pins s σ H x y v u Q I rx ry h
  rcases h with ⟨rfl, h⟩ | ⟨rfl, h⟩
  · exact L2.op_cat pins s σ H x y v u Q I rx ry h
  · exact L2.op_rep pins s σ H x y v u Q I rx ry h
theorem RUs.flat {w : Wd} {us : List U} {vs : List V} (h : RUs c w us vs) : ∀ n, RUs c w (List.replicate n us).flatten (List.replicate n vs).flatten
  | 0 => .nil
  | n + 1 => by rw [List.replicate_succ, List.flatten_cons, List.replicate_succ, List.flatten_cons]; exact h.append (RUs.flat h n)
theorem asInt_ok {w : Wd} {u : U} {v : V} {i : Int} (r : RU c w u v) (h : asInt u = some i) : v = .int i := by
  cases r with
  | d r => cases r <;> first | (cases h; rfl) | cases h
  | r e => cases h
theorem asStr_ok {w : Wd} {u : U} {v : V} {i : S} (r : RU c w u v) (h : asStr u = some i) : v = .str (sOf i) ∧ i.length ≤ sizeLine := by
  cases r with
  | d r => cases r <;> first | (cases h; exact ⟨rfl, by assumption⟩) | cases h
  | r e => cases h
theorem leaf_bin (m : Md) (o : BOp) : Leaf2 X c (PySem.binaryOp (opOf o)) (binU m o) := by
  refine ⟨_, or2 (op_int o) (or2 (op_strs o) (op_lists o)), fun W w u v x y Q ok ru rv h => ?_⟩
  have L : OutE c W w (RU c) (binL m o w.s u v) Q → (o = .add ∧ L2.rCat x y w.H Q) ∨ (o = .mul ∧ L2.rRep x y w.H Q) := fun h => by
    cases o with
    | add =>
      left
      simp only [binL] at h
      cases e1 : lstW w.s u with
      | none => simp only [e1] at h; exact h.elim
      | some xs =>
        cases e2 : lstW w.s v with
        | none => simp only [e1, e2] at h; exact h.elim
        | some ys =>
          simp only [e1, e2] at h
          split at h
          · rename_i z
            obtain ⟨a, vs, rfl, h1, r1, z1⟩ := lstW_ok ok ru e1
            obtain ⟨b, ws, rfl, h2, r2, z2⟩ := lstW_ok ok rv e2
            have hz : vs.length + ws.length ≤ sizeLine := by rw [← r1.length, ← r2.length, ← big_line]; exact z
            exact ⟨rfl, a, b, vs, ws, rfl, rfl, h1, h2, hz, mkL_out ok (r1.append r2) (by rw [List.length_append]; exact hz) h⟩
          · exact h.elim
    | mul =>
      right
      simp only [binL] at h
      cases e1 : lstW w.s u with
      | none => simp only [e1] at h; exact h.elim
      | some xs =>
        cases e2 : asInt v with
        | none => simp only [e1, e2] at h; exact h.elim
        | some j =>
          simp only [e1, e2] at h
          split at h
          · rename_i z
            obtain ⟨a, vs, rfl, h1, r1, z1⟩ := lstW_ok ok ru e1
            have hz : vs.length * j.toNat ≤ sizeLine := by rw [← r1.length, ← big_line]; exact z.1
            refine ⟨rfl, a, j, vs, rfl, asInt_ok rv e2, h1, z.2.1, z.2.2, hz, mkL_out ok (r1.flat _) ?_ h⟩
            have : ((List.replicate j.toNat vs).flatten).length = j.toNat * vs.length := by simp
            rw [this, Nat.mul_comm]; exact hz
          · exact h.elim
    | _ => exact h.elim
  rw [binU] at h
  cases ei : asInt u with
  | some i =>
    cases ej : asInt v with
    | some j =>
      simp only [ei, ej] at h
      obtain ⟨k, e, h⟩ := OutE.of0 h
      cases e1 : intOp o i j with
      | none => rw [e1] at e; cases e
      | some n => rw [e1] at e; cases e; exact .inl ⟨i, j, n, asInt_ok ru ei, asInt_ok rv ej, e1, h.ret ok (.d (.int n))⟩
    | none =>
      have e3 : asStr u = none := by
        cases u with
        | d x => cases x <;> first | rfl | cases ei
        | r _ _ => rfl
      simp only [ei, ej, e3] at h
      exact .inr (.inr (L h))
  | none =>
    simp only [ei] at h
    cases e3 : asStr u with
    | none => simp only [e3] at h; exact .inr (.inr (L h))
    | some z1 =>
      cases e4 : asStr v with
      | none => simp only [e3, e4] at h; exact .inr (.inr (L h))
      | some z2 =>
        simp only [e3, e4] at h
        obtain ⟨rfl, l1⟩ := asStr_ok ru e3
        obtain ⟨rfl, l2⟩ := asStr_ok rv e4
        cases o with
        | add =>
          simp only at h
          split at h
          · rename_i z
            refine .inr (.inl ⟨rfl, _, _, rfl, rfl, by rw [sOf_len, sOf_len, ← big_line]; exact z, ?_⟩)
            rw [sOf_app]
            exact h.ret ok (.d (.str (by rw [List.length_append, ← big_line]; exact z)))
          · exact h.elim
        | _ => exact h.elim
end
end Z
end

section
set_option autoImplicit false
set_option linter.all false
set_option maxRecDepth 100000
namespace Z
open PySem (Str sizeLine Value Addr PyData)
open L2 (V HO Hp Key Cx)
mutual
def py : D → PyData
  | .non => .none
  | .bl b => .bool b
  | .int i => .int i
  | .str x => .str (sOf x)
  | .lst xs => .list (pys xs)
  | .tup xs => .tuple (pys xs)
  | .dct _ _ => .dict []
  | .obj _ _ => .dict []
  | .scr _ => .dict []
def pys : List D → List PyData
  | [] => []
  | x :: xs => py x :: pys xs
end
theorem pys_map : ∀ xs : List D, pys xs = xs.map py
  | [] => rfl
  | x :: xs => by rw [pys, pys_map xs]; rfl
theorem pys_len (xs : List D) : (pys xs).length = xs.length := by rw [pys_map, List.length_map]
section
variable {c : Cfg}
mutual
theorem RD.dp {H : Hp} {L : Addr → Prop} : ∀ (x : D) (v : V) (n : Nat), pl n x = true → RD c H L x v → L2.Dp c.K H v (py x)
  | .non, _, _, _, .non => .non
  | .bl _, _, _, _, .bl b => .bl b
  | .int _, _, _, _, .int i => .int i
  | .str _, _, _, _, .str h => .str _
  | .lst xs, _, 0, p, r => by simp [pl] at p
  | .lst xs, _, n + 1, p, .lst h z r => .lst (.inl (.inl h.1)) (RDs.dp xs _ n (by simpa [pl] using p) r)
  | .tup xs, _, 0, p, r => by simp [pl] at p
  | .tup xs, _, n + 1, p, .tup h z r => .tup (h.imp (fun h => h.1) id) (RDs.dp xs _ n (by simpa [pl] using p) r)
  | .dct _ _, _, 0, p, _ => by simp [pl] at p
  | .dct _ _, _, n + 1, p, _ => by simp [pl] at p
  | .obj _ _, _, 0, p, _ => by simp [pl] at p
  | .obj _ _, _, n + 1, p, _ => by simp [pl] at p
  | .scr _, _, 0, p, _ => by simp [pl] at p
  | .scr _, _, n + 1, p, _ => by simp [pl] at p
theorem RDs.dp {H : Hp} {L : Addr → Prop} : ∀ (xs : List D) (vs : List V) (n : Nat), pls n xs = true → RDs c H L xs vs → L2.DpAll c.K H vs (pys xs)
  | [], _, _, _, .nil => .nil
  | x :: xs, _, n, p, .cons h r => by
    rw [pls, Bool.and_eq_true] at p
    exact .cons (RD.dp x _ n p.1 h) (RDs.dp xs _ n p.2 r)
end
def toDs (s : Stk) (n : Nat) (us : List U) : Option (List D) := (us.map (toD s n)).foldr (fun o r => match o, r with | some x, some l => some (x :: l) | _, _ => none) (some [])
theorem toDs_cons {s : Stk} {n : Nat} {u : U} {us : List U} {l : List D} (h : toDs s n (u :: us) = some l) : ∃ x l', toD s n u = some x ∧ toDs s n us = some l' ∧ l = x :: l' := by
  have h : (match toD s n u, toDs s n us with | some x, some l => some (x :: l) | _, _ => none) = some l := h
  split at h
  · rename_i x l' e1 e2; cases h; exact ⟨x, l', e1, e2, rfl⟩
  · cases h
mutual
theorem toD_dp {w : Wd} (ok : OkW c w) : ∀ (n m : Nat) (u : U) (v : V) (x : D), toD w.s n u = some x → pl m x = true → RU c w u v → L2.Dp c.K w.H v (py x)
  | n, m, .d y, v, x, h, p, r => by
    have e : toD w.s n (.d y) = some y := by cases n <;> rfl
    rw [e] at h; cases h
    cases r with
    | d r => exact r.dp _ _ _ p
  | 0, m, .r g i, v, x, h, p, r => by cases h
  | n + 1, m, .r g i, v, x, h, p, r => by
    cases r with
    | @r _ _ a ha =>
      rw [toD] at h
      cases e : getL w.s.rs g i with
      | none => rw [e] at h; cases h
      | some k =>
        rw [e] at h
        cases k with
        | lst us =>
          have h : (match toDs w.s n us with | some l => some (D.lst l) | none => none) = some x := h
          cases e2 : toDs w.s n us with
          | none => rw [e2] at h; cases h
          | some l =>
            rw [e2] at h; cases h
            obtain ⟨vs, h1, h2, h3⟩ := ok.cell g i a _ ha e
            cases m with
            | zero => simp [pl] at p
            | succ m => exact .lst (.inl (.inl h1)) (toDs_dp ok n m us vs l e2 (by simpa [pl] using p) h3)
        | _ => cases h
theorem toDs_dp {w : Wd} (ok : OkW c w) : ∀ (n m : Nat) (us : List U) (vs : List V) (xs : List D), toDs w.s n us = some xs → pls m xs = true → RUs c w us vs → L2.DpAll c.K w.H vs (pys xs)
  | n, m, [], _, xs, h, p, .nil => by cases h; exact .nil
  | n, m, u :: us, _, xs, h, p, .cons r rs => by
    obtain ⟨x, l, e1, e2, rfl⟩ := toDs_cons h
    rw [pls, Bool.and_eq_true] at p
    exact .cons (toD_dp ok n m u _ x e1 p.1 r) (toDs_dp ok n m us _ l e2 p.2 rs)
end
end
theorem str_beq (x y : S) : (sOf x == sOf y) = (x == y) := by
  by_cases h : x = y
  · subst h; simp
  · have : sOf x ≠ sOf y := fun z => h (sOf_inj z)
    rw [beq_eq_false_iff_ne.mpr h, beq_eq_false_iff_ne.mpr this]
mutual
theorem eqD_py : ∀ x y : D, eqD x y = PyData.eqv (py x) (py y)
  | .non, y => by cases y <;> simp [eqD, py, PyData.eqv]
  | .bl _, y => by cases y <;> simp [eqD, py, PyData.eqv]
  | .int _, y => by cases y <;> simp [eqD, py, PyData.eqv]
  | .str x, y => by cases y <;> simp [eqD, py, PyData.eqv, str_beq]
  | .lst xs, y => by
    cases y with
    | lst ys => simp only [eqD, py, PyData.eqv]; exact eqDs_py xs ys
    | _ => simp [eqD, py, PyData.eqv]
  | .tup xs, y => by
    cases y with
    | tup ys => simp only [eqD, py, PyData.eqv]; exact eqDs_py xs ys
    | _ => simp [eqD, py, PyData.eqv]
  | .dct _ _, y => by cases y <;> simp [eqD, py, PyData.eqv]
  | .obj _ _, y => by cases y <;> simp [eqD, py, PyData.eqv]
  | .scr _, y => by cases y <;> simp [eqD, py, PyData.eqv]
theorem eqDs_py : ∀ xs ys : List D, eqDs xs ys = PyData.eqvAll (pys xs) (pys ys)
  | [], [] => by simp [eqDs, pys, PyData.eqvAll]
  | [], y :: ys => by simp [eqDs, pys, PyData.eqvAll]
  | x :: xs, [] => by simp [eqDs, pys, PyData.eqvAll]
  | x :: xs, y :: ys => by simp only [eqDs, pys, PyData.eqvAll]; rw [eqD_py x y, eqDs_py xs ys]
end
mutual
theorem alk_py : ∀ x y : D, alk x y = true → PySem.W.alike (py x) (py y) = true
  | .lst xs, y, h => by
    cases y with
    | lst ys => simp only [py, PySem.W.alike]; exact alks_py xs ys (by simpa [alk] using h)
    | _ => simp [alk] at h
  | .tup xs, y, h => by
    cases y with
    | tup ys => simp only [py, PySem.W.alike]; exact alks_py xs ys (by simpa [alk] using h)
    | _ => simp [alk] at h
  | .non, y, h => by cases y <;> simp [alk] at h <;> simp [py, PySem.W.alike]
  | .bl _, y, h => by cases y <;> simp [alk] at h <;> simp [py, PySem.W.alike]
  | .int _, y, h => by cases y <;> simp [alk] at h <;> simp [py, PySem.W.alike]
  | .str _, y, h => by cases y <;> simp [alk] at h <;> simp [py, PySem.W.alike]
  | .dct _ _, y, h => by simp [alk] at h
  | .obj _ _, y, h => by simp [alk] at h
  | .scr _, y, h => by simp [alk] at h
theorem alks_py : ∀ xs ys : List D, alks xs ys = true → PySem.W.alikeAll (pys xs) (pys ys) = true
  | [], ys, _ => by simp [pys, PySem.W.alikeAll]
  | x :: xs, [], _ => by simp [pys, PySem.W.alikeAll]
  | x :: xs, y :: ys, h => by
    simp only [alks, Bool.and_eq_true] at h
    simp only [pys, PySem.W.alikeAll, Bool.and_eq_true]
    exact ⟨alk_py x y h.1, alks_py xs ys h.2⟩
end
mutual
theorem ltD_py : ∀ x y : D, alk x y = true → ltD x y = PySem.W.dataLt (py x) (py y)
  | .lst xs, y, h => by
    cases y with
    | lst ys => simp only [py, ltD, PySem.W.dataLt_list]; exact ltDs_py xs ys (by simpa [alk] using h)
    | _ => simp [alk] at h
  | .tup xs, y, h => by
    cases y with
    | tup ys => simp only [py, ltD, PySem.W.dataLt_tuple]; exact ltDs_py xs ys (by simpa [alk] using h)
    | _ => simp [alk] at h
  | .non, y, h => by
    cases y <;> simp [alk] at h
    simp only [py, ltD]
    decide +kernel
  | .bl a, y, h => by
    cases y <;> simp [alk] at h
    rename_i b
    simp only [py, ltD, PySem.W.dataLt_bool]
    cases a <;> cases b <;> decide +kernel
  | .int _, y, h => by
    cases y <;> simp [alk] at h
    simp only [py, ltD, PySem.W.dataLt_int]
  | .str _, y, h => by
    cases y <;> simp [alk] at h
    simp only [py, ltD, PySem.W.dataLt_str]
    exact decide_eq_decide.mpr (by simp [sOf])
  | .dct _ _, y, h => by simp [alk] at h
  | .obj _ _, y, h => by simp [alk] at h
  | .scr _, y, h => by simp [alk] at h
theorem ltDs_py : ∀ xs ys : List D, alks xs ys = true → ltDs xs ys = PyProof.Rows.lexLt PyProof.Rows.itemOrd (PySem.W.keyToksAll (pys xs)) (PySem.W.keyToksAll (pys ys))
  | [], [], _ => by simp only [pys, ltDs]; decide +kernel
  | [], y :: ys, _ => by
    simp only [pys, ltDs, PySem.W.keyToksAll]
    rw [PyProof.Rows.lex_cons]
    rfl
  | x :: xs, [], _ => by
    simp only [pys, ltDs, PySem.W.keyToksAll]
    rw [PyProof.Rows.lex_cons]
    rfl
  | x :: xs, y :: ys, h => by
    simp only [alks, Bool.and_eq_true] at h
    simp only [pys, ltDs]
    rw [PySem.W.dataLt_cons (alk_py x y h.1), ← eqD_py, ltDs_py xs ys h.2, ltD_py x y h.1]
end
end Z
end

section
set_option autoImplicit false
set_option linter.all false
set_option maxRecDepth 100000
namespace Z
open PySem (Str sizeLine Value Addr PyData)
open L2 (V HO Hp Key Cx)
mutual
theorem pl_plain : ∀ (x : D) (n : Nat), pl n x = true → (py x).plain = true ∧ (py x).depth ≤ n
  | .non, n, _ => ⟨rfl, by simp [py, PyData.depth]⟩
  | .bl _, n, _ => ⟨rfl, by simp [py, PyData.depth]⟩
  | .int _, n, _ => ⟨rfl, by simp [py, PyData.depth]⟩
  | .str _, n, _ => ⟨rfl, by simp [py, PyData.depth]⟩
  | .lst xs, 0, h => by simp [pl] at h
  | .lst xs, n + 1, h => by
    obtain ⟨a, b⟩ := pls_plain xs n (by simpa [pl] using h)
    exact ⟨by simpa [py, PyData.plain] using a, by simp [py, PyData.depth]; exact b⟩
  | .tup xs, 0, h => by simp [pl] at h
  | .tup xs, n + 1, h => by
    obtain ⟨a, b⟩ := pls_plain xs n (by simpa [pl] using h)
    exact ⟨by simpa [py, PyData.plain] using a, by simp [py, PyData.depth]; exact b⟩
  | .dct _ _, 0, h => by simp [pl] at h
  | .dct _ _, n + 1, h => by simp [pl] at h
  | .obj _ _, 0, h => by simp [pl] at h
  | .obj _ _, n + 1, h => by simp [pl] at h
  | .scr _, 0, h => by simp [pl] at h
  | .scr _, n + 1, h => by simp [pl] at h
theorem pls_plain : ∀ (xs : List D) (n : Nat), pls n xs = true → PyData.plainAll (pys xs) = true ∧ PyData.depthAll (pys xs) ≤ n
  | [], n, _ => ⟨rfl, by simp [pys, PyData.depthAll]⟩
  | x :: xs, n, h => by
    rw [pls, Bool.and_eq_true] at h
    obtain ⟨a, b⟩ := pl_plain x n h.1
    obtain ⟨a', b'⟩ := pls_plain xs n h.2
    exact ⟨by simp [pys, PyData.plainAll, a, a'], by simp only [pys, PyData.depthAll]; omega⟩
end
section
variable {X : Cx} {c : Cfg}
abbrev Rm (X : Cx) : Prop := X.A.units + 150 < PySem.cLine
def rEqP (K : PySem.W.Frag) : L2.R2 := fun x y H Q => ∃ d e, L2.Dp K H x d ∧ L2.Dp K H y e ∧ d.plain = true ∧ e.plain = true ∧ d.depth ≤ 60 ∧ Q (.bl (PyData.eqv d e)) H
def rNeP (K : PySem.W.Frag) : L2.R2 := fun x y H Q => ∃ d e, L2.Dp K H x d ∧ L2.Dp K H y e ∧ d.plain = true ∧ e.plain = true ∧ d.depth ≤ 60 ∧ Q (.bl (!PyData.eqv d e)) H
theorem op_eqP (hu : Rm X) : L2.OpR X (PySem.compareOp .Eq) (rEqP X.K) := by
  intro pins s σ H x y v u Q I rx ry h
  obtain ⟨d, e, hd, he, pd, pe, dd, q⟩ := h
  obtain ⟨as, r1⟩ := L2.Dp.reads I d x v hd rx
  obtain ⟨bs, r2⟩ := L2.Dp.reads I e y u he ry
  exact PySem.SeqAt.eq_plain r1 r2 pd pe (by have := hu; omega) ⟨.bl _, H, I, rfl, q⟩
theorem op_neP (hu : Rm X) : L2.OpR X (PySem.compareOp .NotEq) (rNeP X.K) := by
  intro pins s σ H x y v u Q I rx ry h
  obtain ⟨d, e, hd, he, pd, pe, dd, q⟩ := h
  obtain ⟨as, r1⟩ := L2.Dp.reads I d x v hd rx
  obtain ⟨bs, r2⟩ := L2.Dp.reads I e y u he ry
  exact PySem.SeqAt.ne_plain r1 r2 pd pe (by have := hu; omega) ⟨.bl _, H, I, rfl, q⟩
def rOrd (K : PySem.W.Frag) (g : PyData → PyData → Bool) : L2.R2 := fun x y H Q => ∃ d e, L2.Dp K H x d ∧ L2.Dp K H y e ∧ PySem.W.alike d e = true ∧ d ≠ .none ∧ d.depth ≤ 60 ∧ Q (.bl (g d e)) H
theorem op_ltP (hu : Rm X) : L2.OpR X (PySem.compareOp .Lt) (rOrd X.K PySem.W.dataLt) := by
  intro pins s σ H x y v u Q I rx ry h
  obtain ⟨d, e, hd, he, pd, pe, dd, q⟩ := h
  obtain ⟨as, r1⟩ := L2.Dp.reads I d x v hd rx
  obtain ⟨bs, r2⟩ := L2.Dp.reads I e y u he ry
  exact PySem.W.lt_data r1 r2 pd pe (by have := hu; omega) ⟨.bl _, H, I, rfl, q⟩
theorem op_gtP (hu : Rm X) : L2.OpR X (PySem.compareOp .Gt) (rOrd X.K fun d e => PySem.W.dataLt e d) := by
  intro pins s σ H x y v u Q I rx ry h
  obtain ⟨d, e, hd, he, pd, pe, dd, q⟩ := h
  obtain ⟨as, r1⟩ := L2.Dp.reads I d x v hd rx
  obtain ⟨bs, r2⟩ := L2.Dp.reads I e y u he ry
  exact PySem.W.gt_data r1 r2 pd pe (by have := hu; omega) ⟨.bl _, H, I, rfl, q⟩
theorem op_leP (hu : Rm X) : L2.OpR X (PySem.compareOp .LtE) (rOrd X.K fun d e => !PySem.W.dataLt e d) := by
  intro pins s σ H x y v u Q I rx ry h
  obtain ⟨d, e, hd, he, pd, pe, dd, q⟩ := h
  obtain ⟨as, r1⟩ := L2.Dp.reads I d x v hd rx
  obtain ⟨bs, r2⟩ := L2.Dp.reads I e y u he ry
  exact PySem.W.le_data r1 r2 pd pe (by have := hu; omega) ⟨.bl _, H, I, rfl, q⟩
theorem op_geP (hu : Rm X) : L2.OpR X (PySem.compareOp .GtE) (rOrd X.K fun d e => !PySem.W.dataLt d e) := by
  intro pins s σ H x y v u Q I rx ry h
  obtain ⟨d, e, hd, he, pd, pe, dd, q⟩ := h
  obtain ⟨as, r1⟩ := L2.Dp.reads I d x v hd rx
  obtain ⟨bs, r2⟩ := L2.Dp.reads I e y u he ry
  exact PySem.W.ge_data r1 r2 pd pe (by have := hu; omega) ⟨.bl _, H, I, rfl, q⟩
def rInP (K : PySem.W.Frag) (g : Bool → Bool) : L2.R2 := fun x y H Q => ∃ d ds, L2.Dp K H x d ∧ (L2.Dp K H y (.list ds) ∨ L2.Dp K H y (.tuple ds)) ∧ d.plain = true ∧ PyData.plainAll ds = true ∧ d.depth ≤ 60 ∧ Q (.bl (g (ds.any fun z => PyData.eqv z d))) H
theorem op_inP (hu : Rm X) : L2.OpR X (PySem.compareOp .In) (rInP X.K id) := by
  intro pins s σ H x y v u Q I rx ry h
  obtain ⟨d, ds, hd, he, pd, pe, dd, q⟩ := h
  obtain ⟨as, r1⟩ := L2.Dp.reads I d x v hd rx
  rcases he with he | he
  · obtain ⟨bs, r2⟩ := L2.Dp.reads I _ y u he ry
    exact PySem.SeqAt.in_list_data r2 r1 pe pd (by have := hu; omega) ⟨.bl _, H, I, rfl, q⟩
  · obtain ⟨bs, r2⟩ := L2.Dp.reads I _ y u he ry
    exact PySem.SeqAt.in_tuple_data r2 r1 pe pd (by have := hu; omega) ⟨.bl _, H, I, rfl, q⟩
theorem op_ninP (hu : Rm X) : L2.OpR X (PySem.compareOp .NotIn) (rInP X.K not) := by
  intro pins s σ H x y v u Q I rx ry h
  obtain ⟨d, ds, hd, he, pd, pe, dd, q⟩ := h
  obtain ⟨as, r1⟩ := L2.Dp.reads I d x v hd rx
  rcases he with he | he
  · obtain ⟨bs, r2⟩ := L2.Dp.reads I _ y u he ry
    exact PySem.SeqAt.notIn_list_data r2 r1 pe pd (by have := hu; omega) ⟨.bl _, H, I, rfl, q⟩
  · obtain ⟨bs, r2⟩ := L2.Dp.reads I _ y u he ry
    exact PySem.SeqAt.notIn_tuple_data r2 r1 pe pd (by have := hu; omega) ⟨.bl _, H, I, rfl, q⟩
def rInK (g : Bool → Bool) : L2.R2 := fun x y H Q => ∃ a o, y = .ref a ∧ L2.DGet H a x o ∧ Q (.bl (g o.isSome)) H
theorem op_inK (hu : Rm X) : L2.OpR X (PySem.compareOp .In) (rInK id) := by
  intro pins s σ H x y v u Q I rx ry h
  obtain ⟨a, o, rfl, g, q⟩ := h
  obtain rfl : u = Value.ref a := ry
  exact L2.d_in (by have := hu; omega) I g rx fun s3 I3 => ⟨.bl o.isSome, H, I3, rfl, q⟩
theorem op_ninK (hu : Rm X) : L2.OpR X (PySem.compareOp .NotIn) (rInK not) := by
  intro pins s σ H x y v u Q I rx ry h
  obtain ⟨a, o, rfl, g, q⟩ := h
  obtain rfl : u = Value.ref a := ry
  exact L2.d_notIn (by have := hu; omega) I g rx fun s3 I3 => ⟨.bl (!o.isSome), H, I3, rfl, q⟩
def copOf : COp → PySem.CmpOp
  | .eq => .Eq | .ne => .NotEq | .lt => .Lt | .le => .LtE | .gt => .Gt | .ge => .GtE | .is => .Is | .isn => .IsNot | .inn => .In | .nin => .NotIn
/-- the keys of a dict -/
theorem dctOf_ok {w : Wd} (ok : OkW c w) {u : U} {v : V} {ks : List Ky} {us : List U} (r : RU c w u v) (h : dctOf w.s u = some (ks, us)) : ∃ a kvs, v = .ref a ∧ L2.Rd w.H a (.dK kvs) ∧ kvs.length ≤ sizeLine ∧ kvs.map (·.1) = ks.map kOf ∧ ks.Nodup ∧ RUs c w us (kvs.map (·.2)) := by
  cases r with
  | d r =>
    cases r with
    | dct h1 h2 h3 h4 h5 =>
      cases h
      exact ⟨_, _, rfl, h1.1, h2, h3, h4, .of_d h5⟩
    | _ => cases h
  | @r g i a e =>
    rw [dctOf] at h
    cases e2 : getL w.s.rs g i with
    | none => rw [e2] at h; cases h
    | some k =>
      rw [e2] at h
      cases k with
      | dct ks us =>
        cases h
        obtain ⟨kvs, h1, h2, h3, h4, h5⟩ := ok.cell g i a _ e e2
        exact ⟨_, _, rfl, .inl h1, h2, h3, h4, h5⟩
      | _ => cases h
theorem kyOf_ok {w : Wd} {u : U} {v : V} {k : Ky} (r : RU c w u v) (h : kyOf u = some k) : v = L2.kV (kOf k) := by
  cases r with
  | d r => cases r <;> first | (cases h; rfl) | cases h
  | r e => cases h
theorem valV_look {w : Wd} : ∀ {kvs : List (Key × V)} {ks : List Ky} {us : List U} (k : Ky), kvs.map (·.1) = ks.map kOf → RUs c w us (kvs.map (·.2)) →
    (∀ u, lookK ks us k = some u → ∃ v, L2.valV kvs (kOf k) = some v ∧ RU c w u v) ∧ (lookK ks us k = none → L2.valV kvs (kOf k) = none) ∧ (ks.contains k = (L2.valV kvs (kOf k)).isSome)
  | [], [], us, k, _, r => by
    cases r
    exact ⟨fun u h => by simp [lookK] at h, fun _ => rfl, rfl⟩
  | [], k' :: ks', us, k, e, _ => by simp at e
  | p :: q, [], us, k, e, _ => by simp at e
  | (y, v) :: kvs, k' :: ks, us, k, e, r => by
    simp only [List.map_cons, List.cons.injEq] at e
    obtain ⟨rfl, e⟩ := e
    cases r with
    | @cons u _ us _ r rs =>
      obtain ⟨a1, a2, a3⟩ := valV_look k e rs
      by_cases q : k = k'
      · subst q
        rw [L2.valV_pos (show ((kOf k, v) : Key × V).1 = kOf k from rfl)]
        simp only [lookK, if_pos rfl]
        refine ⟨fun u h => by cases h; exact ⟨v, rfl, r⟩, fun h => by simp at h, by simp⟩
      · have q2 : ¬ ((kOf k', v) : Key × V).1 = kOf k := fun z => q (kOf_inj z).symm
        rw [L2.valV_neg q2]
        simp only [lookK, if_neg q]
        refine ⟨a1, a2, ?_⟩
        rw [List.contains_cons, a3]
        simp [q]

mutual
theorem alk_comm : ∀ x y : D, alk x y = true → alk y x = true
  | .lst xs, y, h => by
    cases y with
    | lst ys => simpa [alk] using alks_comm xs ys (by simpa [alk] using h)
    | _ => simp [alk] at h
  | .tup xs, y, h => by
    cases y with
    | tup ys => simpa [alk] using alks_comm xs ys (by simpa [alk] using h)
    | _ => simp [alk] at h
  | .non, y, h => by cases y <;> simp [alk] at h ⊢
  | .bl _, y, h => by cases y <;> simp [alk] at h ⊢
  | .int _, y, h => by cases y <;> simp [alk] at h ⊢
  | .str _, y, h => by cases y <;> simp [alk] at h ⊢
  | .dct _ _, y, h => by simp [alk] at h
  | .obj _ _, y, h => by simp [alk] at h
  | .scr _, y, h => by simp [alk] at h
theorem alks_comm : ∀ xs ys : List D, alks xs ys = true → alks ys xs = true
  | [], [], _ => by simp [alks]
  | [], y :: ys, _ => by simp [alks]
  | x :: xs, [], _ => by simp [alks]
  | x :: xs, y :: ys, h => by
    simp only [alks, Bool.and_eq_true] at h ⊢
    exact ⟨alk_comm x y h.1, alks_comm xs ys h.2⟩
end
theorem ordU_ok {w : Wd} (ok : OkW c w) {u v : U} {x y : V} {a b : D} (ru : RU c w u x) (rv : RU c w v y) (h : ordU w.s u v = some (a, b)) :
    L2.Dp c.K w.H x (py a) ∧ L2.Dp c.K w.H y (py b) ∧ PySem.W.alike (py a) (py b) = true ∧ py a ≠ .none ∧ (py a).depth ≤ 60 ∧ alk a b = true ∧ alk b a = true := by
  rw [ordU] at h
  cases e1 : toD w.s 4 u with
  | none => simp only [e1] at h; cases h
  | some a' =>
    cases e2 : toD w.s 4 v with
    | none => simp only [e1, e2] at h; cases h
    | some b' =>
      simp only [e1, e2] at h
      split at h
      · rename_i z
        obtain ⟨ha, hb⟩ : a' = a ∧ b' = b := by simpa using h
        subst ha hb
        simp only [Bool.and_eq_true] at z
        obtain ⟨⟨⟨z1, z2⟩, z3⟩, z4⟩ := z
        obtain ⟨p1, p2⟩ := pl_plain a' _ z1
        have al := alk_py a' b' z3
        refine ⟨toD_dp ok _ _ u x a' e1 z1 ru, toD_dp ok _ _ v y b' e2 z2 rv, al, ?_, Nat.le_trans p2 (by decide), z3, ?_⟩
        · cases a' <;> first | exact absurd z4 (by decide) | (intro q; cases q)
        · exact alk_comm a' b' z3
      · cases h
theorem inU_ok {w : Wd} (ok : OkW c w) {u v : U} {x y : V} {b : Bool} (ru : RU c w u x) (rv : RU c w v y) (h : inU w.s u v = some b) :
    (∃ (n : Nat) (z : S), x = .str ⟨#[n]⟩ ∧ y = .str (sOf z) ∧ b = z.contains n) ∨ (∃ a o, y = .ref a ∧ L2.DGet w.H a x o ∧ b = o.isSome) ∨
    ∃ d ds, L2.Dp c.K w.H x d ∧ (L2.Dp c.K w.H y (.list ds) ∨ L2.Dp c.K w.H y (.tuple ds)) ∧ d.plain = true ∧ PyData.plainAll ds = true ∧ d.depth ≤ 60 ∧ b = ds.any fun z => PyData.eqv z d := by
  rw [inU] at h
  cases e1 : asStr v with
  | some z =>
    simp only [e1] at h
    obtain ⟨rfl, _⟩ := asStr_ok rv e1
    cases e2 : asStr u with
    | none => simp only [e2] at h; cases h
    | some q =>
      obtain ⟨rfl, _⟩ := asStr_ok ru e2
      cases q with
      | nil => simp only [e2] at h; cases h
      | cons n q =>
        cases q with
        | nil => simp only [e2] at h; cases h; exact .inl ⟨n, z, rfl, rfl, rfl⟩
        | cons _ _ => simp only [e2] at h; cases h
  | none =>
    simp only [e1] at h
    cases e2 : dctOf w.s v with
    | some p =>
      obtain ⟨ks, us⟩ := p
      simp only [e2] at h
      cases e3 : kyOf u with
      | none => simp only [e3] at h; cases h
      | some k =>
        simp only [e3] at h
        cases h
        obtain ⟨a, kvs, rfl, h1, h2, h3, h4, h5⟩ := dctOf_ok ok rv e2
        obtain rfl := kyOf_ok ru e3
        exact .inr (.inl ⟨a, _, rfl, .inl ⟨kvs, kOf k, h1, rfl, rfl⟩, (valV_look k h3 h5).2.2⟩)
    | none =>
      simp only [e2] at h
      cases e3 : toD w.s 4 v with
      | none => simp only [e3] at h; cases h
      | some d =>
        cases e4 : toD w.s 4 u with
        | none => simp only [e3, e4] at h; cases d <;> cases h
        | some x' =>
          have key : ∀ xs : List D, (pls dp xs && pl dp x') = true → (py x').plain = true ∧ PyData.plainAll (pys xs) = true ∧ (py x').depth ≤ 60 ∧ (xs.any fun y => eqD y x') = (pys xs).any fun z => PyData.eqv z (py x') := fun xs z => by
            rw [Bool.and_eq_true] at z
            obtain ⟨p1, p2⟩ := pl_plain x' _ z.2
            refine ⟨p1, (pls_plain xs _ z.1).1, Nat.le_trans p2 (by decide), ?_⟩
            rw [pys_map, List.any_map]
            congr 1
            funext y
            exact eqD_py y x'
          cases d with
          | lst xs =>
            simp only [e3, e4] at h
            split at h
            · rename_i z
              cases h
              obtain ⟨k1, k2, k3, k4⟩ := key xs z
              rw [Bool.and_eq_true] at z
              exact .inr (.inr ⟨py x', pys xs, toD_dp ok _ _ u x x' e4 z.2 ru, .inl (toD_dp ok 4 (dp + 1) v y (.lst xs) e3 (by simpa [pl] using z.1) rv), k1, k2, k3, k4⟩)
            · cases h
          | tup xs =>
            simp only [e3, e4] at h
            split at h
            · rename_i z
              cases h
              obtain ⟨k1, k2, k3, k4⟩ := key xs z
              rw [Bool.and_eq_true] at z
              exact .inr (.inr ⟨py x', pys xs, toD_dp ok _ _ u x x' e4 z.2 ru, .inr (toD_dp ok 4 (dp + 1) v y (.tup xs) e3 (by simpa [pl] using z.1) rv), k1, k2, k3, k4⟩)
            · cases h
          | _ => simp only [e3, e4] at h; cases h
theorem leaf_cmp (hK : X.K = c.K) (hu : Rm X) (o : COp) : Leaf2 X c (PySem.compareOp (copOf o)) (fun s a b => (RE.of (cmpU o s a b) s).bind fun b s => .ok (.d (.bl b)) s) := by
  have fin : ∀ {W : L2.XK} {w : Wd} {Q : V → Hp → Prop} {b : Bool}, OkW c w → OutE c W w (RU c) (.ok (.d (.bl b)) w.s) Q → Q (.bl b) w.H := fun ok h => h.ret ok (.d (.bl _))
  cases o with
  | eq =>
    refine ⟨_, op_eqP hu, fun W w u v x y Q ok ru rv h => ?_⟩
    obtain ⟨b, e, h⟩ := OutE.of h
    simp only [cmpU] at e
    cases e1 : toD w.s 4 u with
    | none => simp only [e1] at e; cases e
    | some a' =>
      cases e2 : toD w.s 4 v with
      | none => simp only [e1, e2] at e; cases e
      | some b' =>
        simp only [e1, e2] at e
        split at e
        · rename_i z
          cases e
          rw [Bool.and_eq_true] at z
          obtain ⟨p1, p2⟩ := pl_plain a' _ z.1
          obtain ⟨q1, q2⟩ := pl_plain b' _ z.2
          refine ⟨py a', py b', by rw [hK]; exact toD_dp ok _ _ u x a' e1 z.1 ru, by rw [hK]; exact toD_dp ok _ _ v y b' e2 z.2 rv, p1, q1, Nat.le_trans p2 (by decide), ?_⟩
          rw [← eqD_py]
          exact fin ok h
        · cases e
  | ne =>
    refine ⟨_, op_neP hu, fun W w u v x y Q ok ru rv h => ?_⟩
    obtain ⟨b, e, h⟩ := OutE.of h
    simp only [cmpU] at e
    cases e1 : toD w.s 4 u with
    | none => simp only [e1] at e; cases e
    | some a' =>
      cases e2 : toD w.s 4 v with
      | none => simp only [e1, e2] at e; cases e
      | some b' =>
        simp only [e1, e2] at e
        split at e
        · rename_i z
          cases e
          rw [Bool.and_eq_true] at z
          obtain ⟨p1, p2⟩ := pl_plain a' _ z.1
          obtain ⟨q1, q2⟩ := pl_plain b' _ z.2
          refine ⟨py a', py b', by rw [hK]; exact toD_dp ok _ _ u x a' e1 z.1 ru, by rw [hK]; exact toD_dp ok _ _ v y b' e2 z.2 rv, p1, q1, Nat.le_trans p2 (by decide), ?_⟩
          rw [← eqD_py]
          exact fin ok h
        · cases e
  | lt =>
    refine ⟨_, op_ltP hu, fun W w u v x y Q ok ru rv h => ?_⟩
    obtain ⟨b, e, h⟩ := OutE.of h
    simp only [cmpU, Option.map_eq_some_iff] at e
    obtain ⟨⟨a', b'⟩, e, rfl⟩ := e
    obtain ⟨d1, d2, al, nn, dd, k1, k2⟩ := ordU_ok ok ru rv e
    exact ⟨_, _, by rw [hK]; exact d1, by rw [hK]; exact d2, al, nn, dd, by rw [← ltD_py _ _ k1]; exact fin ok h⟩
  | gt =>
    refine ⟨_, op_gtP hu, fun W w u v x y Q ok ru rv h => ?_⟩
    obtain ⟨b, e, h⟩ := OutE.of h
    simp only [cmpU, Option.map_eq_some_iff] at e
    obtain ⟨⟨a', b'⟩, e, rfl⟩ := e
    obtain ⟨d1, d2, al, nn, dd, k1, k2⟩ := ordU_ok ok ru rv e
    exact ⟨_, _, by rw [hK]; exact d1, by rw [hK]; exact d2, al, nn, dd, by show Q (.bl (PySem.W.dataLt (py b') (py a'))) _; rw [← ltD_py _ _ k2]; exact fin ok h⟩
  | le =>
    refine ⟨_, op_leP hu, fun W w u v x y Q ok ru rv h => ?_⟩
    obtain ⟨b, e, h⟩ := OutE.of h
    simp only [cmpU, Option.map_eq_some_iff] at e
    obtain ⟨⟨a', b'⟩, e, rfl⟩ := e
    obtain ⟨d1, d2, al, nn, dd, k1, k2⟩ := ordU_ok ok ru rv e
    exact ⟨_, _, by rw [hK]; exact d1, by rw [hK]; exact d2, al, nn, dd, by show Q (.bl (!PySem.W.dataLt (py b') (py a'))) _; rw [← ltD_py _ _ k2]; exact fin ok h⟩
  | ge =>
    refine ⟨_, op_geP hu, fun W w u v x y Q ok ru rv h => ?_⟩
    obtain ⟨b, e, h⟩ := OutE.of h
    simp only [cmpU, Option.map_eq_some_iff] at e
    obtain ⟨⟨a', b'⟩, e, rfl⟩ := e
    obtain ⟨d1, d2, al, nn, dd, k1, k2⟩ := ordU_ok ok ru rv e
    exact ⟨_, _, by rw [hK]; exact d1, by rw [hK]; exact d2, al, nn, dd, by show Q (.bl (!PySem.W.dataLt (py a') (py b'))) _; rw [← ltD_py _ _ k1]; exact fin ok h⟩
  | is =>
    refine ⟨_, or2 L2.op_isN L2.op_isBl, fun W w u v x y Q ok ru rv h => ?_⟩
    obtain ⟨b, e, h⟩ := OutE.of h
    simp only [cmpU] at e
    cases rv with
    | r _ => cases e
    | d rd =>
      cases rd with
      | non =>
        left
        refine ⟨rfl, ?_⟩
        cases ru with
        | r _ => cases e; exact fin ok h
        | d ru => cases ru <;> (cases e; exact fin ok h)
      | bl j =>
        right
        cases ru with
        | r _ => cases e
        | d ru =>
          cases ru with
          | bl i => cases e; exact ⟨i, j, rfl, rfl, fin ok h⟩
          | _ => cases e
      | _ => cases e
  | isn =>
    refine ⟨_, or2 L2.op_notN L2.op_notBl, fun W w u v x y Q ok ru rv h => ?_⟩
    obtain ⟨b, e, h⟩ := OutE.of h
    simp only [cmpU] at e
    cases rv with
    | r _ => cases e
    | d rd =>
      cases rd with
      | non =>
        left
        refine ⟨rfl, ?_⟩
        cases ru with
        | r _ => cases e; exact fin ok h
        | d ru => cases ru <;> (cases e; exact fin ok h)
      | bl j =>
        right
        cases ru with
        | r _ => cases e
        | d ru =>
          cases ru with
          | bl i => cases e; exact ⟨i, j, rfl, rfl, fin ok h⟩
          | _ => cases e
      | _ => cases e
  | inn =>
    refine ⟨_, or2 L2.op_in_sign (or2 (op_inK hu) (op_inP hu)), fun W w u v x y Q ok ru rv h => ?_⟩
    obtain ⟨b, e, h⟩ := OutE.of h
    simp only [cmpU] at e
    rcases inU_ok ok ru rv e with ⟨n, z, rfl, rfl, rfl⟩ | ⟨a, o, rfl, hg, rfl⟩ | ⟨d, ds, h1, h2, h3, h4, h5, rfl⟩
    · exact .inl ⟨n, sOf z, rfl, rfl, by rw [show decide (n ∈ (sOf z).cps.toList) = z.contains n from by rw [Bool.eq_iff_iff]; simp [sOf]; exact decide_eq_true_iff]; exact fin ok h⟩
    · exact .inr (.inl ⟨a, o, rfl, hg, fin ok h⟩)
    · exact .inr (.inr ⟨d, ds, by rw [hK]; exact h1, by rw [hK]; exact h2, h3, h4, h5, fin ok h⟩)
  | nin =>
    refine ⟨_, or2 L2.op_notIn_sign (or2 (op_ninK hu) (op_ninP hu)), fun W w u v x y Q ok ru rv h => ?_⟩
    obtain ⟨b, e, h⟩ := OutE.of h
    simp only [cmpU, Option.map_eq_some_iff] at e
    obtain ⟨b', e, rfl⟩ := e
    rcases inU_ok ok ru rv e with ⟨n, z, rfl, rfl, rfl⟩ | ⟨a, o, rfl, hg, rfl⟩ | ⟨d, ds, h1, h2, h3, h4, h5, rfl⟩
    · exact .inl ⟨n, sOf z, rfl, rfl, by rw [show decide (n ∈ (sOf z).cps.toList) = z.contains n from by rw [Bool.eq_iff_iff]; simp [sOf]; exact decide_eq_true_iff]; exact fin ok h⟩
    · exact .inr (.inl ⟨a, o, rfl, hg, fin ok h⟩)
    · exact .inr (.inr ⟨d, ds, by rw [hK]; exact h1, by rw [hK]; exact h2, h3, h4, h5, fin ok h⟩)
end
end Z
end

section
set_option autoImplicit false
set_option linter.all false
set_option maxRecDepth 100000
namespace Z
open PySem (Str sizeLine Value Addr PyData)
open L2 (V HO Hp Key Cx)
section
variable {X : Cx} {c : Cfg}
/-! ### new lists of what is known -/
/-- list(text) -/
def rListS : List V → Hp → (V → Hp → Prop) → Prop := fun xs H Q => ∃ z : Str, xs = [.str z] ∧ z.length ≤ sizeLine ∧ ∀ p, H p = none → Q (.ref p) (L2.upd H p (.lst (z.cps.toList.map fun n => V.str ⟨#[n]⟩)))
theorem call_listS (hc : X.calm = true) : L2.CallR X (.type "list") rListS := by
  intro pins s σ H xs us Q I r h
  obtain ⟨z, rfl, hz, q⟩ := h
  obtain ⟨u, rfl, t, rfl⟩ := L2.vals1 r
  refine PySem.call_list_str (hn := hz) (I.ok.hd hc) z t fun h' tk acc' c' hk hS' hacc => ?_
  have hv : L2.Vals (z.cps.toList.map fun n => V.str ⟨#[n]⟩) acc'.toList := by
    have go : ∀ (l : List Nat) (a : List Value), a.length = l.length → (∀ (j : Nat) (v : Value), a[j]? = some v → ∃ (n : Nat) (t : PySem.Tok), l[j]? = some n ∧ v = Value.str ⟨#[n]⟩ t) → L2.Vals (l.map fun n => V.str ⟨#[n]⟩) a := by
      intro l
      induction l with
      | nil => intro a e _; cases a with | nil => exact .nil | cons _ _ => simp at e
      | cons n l ih =>
        intro a e k
        cases a with
        | nil => simp at e
        | cons v a =>
          obtain ⟨n', t', e1, e2⟩ := k 0 v rfl
          cases e1
          exact .cons ⟨t', e2⟩ (ih a (by simpa using e) fun j v e => by simpa using k (j + 1) v (by simpa using e))
    refine go _ _ (by simp [hacc.1]) fun j v e => ?_
    obtain ⟨n, t', e1, e2⟩ := hacc.2 j v (by simpa using e)
    exact ⟨n, t', by simpa using e1, e2⟩
  exact ⟨.ref s.heap.objs.size, _, I.laid (t' := tk) hk (Nat.le_refl _) (show L2.ObjOk X.prog X.w _ h' _ (.lst (z.cps.toList.map fun n => V.str ⟨#[n]⟩)) from ⟨by simpa [Str.length] using hz, acc'.toList, c', hv, by simpa using hS'⟩), rfl, q _ (I.hok.fresh (Nat.le_refl _))⟩
/-- sorted of data -/
def rSortedD (K : PySem.W.Frag) : List V → Hp → (V → Hp → Prop) → Prop := fun xs H Q => ∃ (a : Addr) (ps : List (D × V)), xs = [.ref a] ∧ L2.SqL K H a (ps.map (·.2)) ∧ (∀ p ∈ ps, L2.Dp K H p.2 (py p.1)) ∧ PySem.W.AllAlike (ps.map fun p => py p.1) ∧ PySem.W.Sortable (ps.map fun p => py p.1) ∧
  (∀ p ∈ ps, (py p.1).depth ≤ 60) ∧ ∀ p, H p = none → Q (.ref p) (L2.upd H p (.lst ((ps.mergeSort fun p q => !PySem.W.dataLt (py q.1) (py p.1)).map (·.2))))
theorem each_vals {s : PySem.Shared} : ∀ {ps : List (D × V)} {us : List Value}, L2.Vals (ps.map (·.2)) us → PySem.W.EachIs (fun (u : Value) (p : D × V) => L2.RelV p.2 u) us ps
  | [], _, .nil => .nil
  | p :: ps, _, .cons r rs => .cons r (each_vals (s := s) rs)
theorem vals_each : ∀ {ps : List (D × V)} {us : List Value}, PySem.W.EachIs (fun (u : Value) (p : D × V) => L2.RelV p.2 u) us ps → L2.Vals (ps.map (·.2)) us
  | [], _, .nil => .nil
  | p :: ps, _, .cons r rs => .cons r (vals_each rs)
theorem call_sortedD' (hu : Rm X) : L2.CallR X (.builtin "sorted") (rSortedD X.K) := by
  intro pins s σ H xs us Q I r h
  obtain ⟨a, ps, rfl, hs, hd, al, so, dd, q⟩ := h
  obtain ⟨its, rv, hl, hz⟩ := I.list hs
  rw [L2.Vals.ref1 r]
  have e : PySem.W.EachIs (fun (u : Value) (p : D × V) => L2.RelV p.2 u) its ps := each_vals (s := s) rv
  have er : PySem.W.EachIs (fun (u : Value) (p : D × V) => ∃ as, PySem.Reads s.heap u (py p.1) as) its ps := by
    clear q so al dd hs rv hz r hl
    induction e with
    | nil => exact .nil
    | cons r rs ih => exact .cons (L2.Dp.reads I _ _ _ (hd _ (List.mem_cons_self ..)) r) (ih (fun p hp => hd p (List.mem_cons_of_mem _ hp)))
  refine PySem.W.sorted_data (R := fun (u : Value) (p : D × V) => L2.RelV p.2 u) (enc := fun p : D × V => py p.1) hl.isList e er al so (by rw [← e.length]; have := rv.length; rw [List.length_map] at this hz; omega) (fun p hp => by have := dd p hp; have := hu; omega) fun out hlen hout => ?_
  obtain ⟨ep, he'⟩ := PyProof.Rows.sortedAll_at s.heap its out.toArray
  have hv := vals_each hout
  refine ⟨.ref _, L2.upd H (s.heap.objs.size + 1) (.lst ((ps.mergeSort fun p q => !PySem.W.dataLt (py q.1) (py p.1)).map (·.2))), I.laid (t' := s.toks) (fun _ _ => PyProof.Rows.sortedAll_old) (Nat.le_succ _) ⟨?_, out, ep, ?_, he'⟩, rfl, q _ (I.hok.fresh (Nat.le_succ _))⟩
  · rw [List.length_map, List.length_mergeSort]; rw [List.length_map] at hz; exact hz
  · have e2 : (PySem.W.dataLe false fun p : D × V => py p.1) = fun p q => !PySem.W.dataLt (py q.1) (py p.1) := PySem.W.dataLe_eq false _
    rw [← e2]; exact hv
theorem Paired1 {K : PySem.W.Frag} {H : Hp} : ∀ {xs : List PyData} {vs : List V}, L2.DpAll K H vs xs → vs.length = xs.length
  | _, _, .nil => rfl
  | _, _, .cons _ r => congrArg (· + 1) (Paired1 r)
/-- min, max of data -/
def rBestD (K : PySem.W.Frag) (f : PyData → List PyData → PyData) : List V → Hp → (V → Hp → Prop) → Prop := fun xs H Q => ∃ (a : Addr) (vs : List V) (x : PyData) (ds : List PyData), xs = [.ref a] ∧ L2.SqL K H a vs ∧ L2.DpAll K H vs (x :: ds) ∧ PySem.W.AlikeAll (x :: ds) ∧ PyData.depthAll (x :: ds) ≤ 60 ∧
  ((∃ i, f x ds = .int i ∧ Q (.int i) H) ∨ ∃ z, f x ds = .str z ∧ Q (.str z) H)
theorem best_fin {pins : List (Addr × PySem.Obj)} {σ : L2.St} {H : Hp} {s : PySem.Shared} {d : PyData} {v : Value} {h' : PySem.Heap} {tk : Nat} {bs : List Addr} {Q : V → Hp → Prop} (I : L2.Inv X pins σ H s) (r : PySem.Reads h' v d bs) (k : ∀ b o, s.heap.get? b = some o → h'.get? b = some o)
    (q : (∃ i, d = .int i ∧ Q (.int i) H) ∨ ∃ z, d = .str z ∧ Q (.str z) H) : L2.EP X pins σ Q v { s with heap := h', toks := tk } := by
  rcases q with ⟨i, rfl, q⟩ | ⟨z, rfl, q⟩
  · cases r
    exact ⟨.int i, H, I.kept k, ⟨_, rfl⟩, q⟩
  · cases r
    exact ⟨.str z, H, I.kept k, ⟨_, rfl⟩, q⟩
theorem call_minD (hu : Rm X) (hc : X.calm = true) : L2.CallR X (.builtin "min") (rBestD X.K PySem.W.minD) := by
  intro pins s σ H xs us Q I r h
  obtain ⟨a, vs, x, ds, rfl, hs, hd, al, dd, q⟩ := h
  obtain ⟨its, rv, hl, hz⟩ := I.list hs
  rw [L2.Vals.ref1 r]
  obtain ⟨as, hr⟩ := L2.Dp.readsAll I _ _ _ hd rv
  exact PySem.W.min_list_data (I.ok.hd hc) hl.isList (by simpa using hr) al (by have := hu; omega) fun i v h' tk bs _ r' k => best_fin I r' k q
theorem call_maxD (hu : Rm X) (hc : X.calm = true) : L2.CallR X (.builtin "max") (rBestD X.K PySem.W.maxD) := by
  intro pins s σ H xs us Q I r h
  obtain ⟨a, vs, x, ds, rfl, hs, hd, al, dd, q⟩ := h
  obtain ⟨its, rv, hl, hz⟩ := I.list hs
  rw [L2.Vals.ref1 r]
  obtain ⟨as, hr⟩ := L2.Dp.readsAll I _ _ _ hd rv
  exact PySem.W.max_list_data (I.ok.hd hc) hl.isList (by simpa using hr) al (by have := hu; omega) fun i v h' tk bs _ r' k => best_fin I r' k q
end
end Z
end

section
set_option autoImplicit false
set_option linter.all false
set_option maxRecDepth 100000
namespace Z
open PySem (Str sizeLine Value Addr PyData)
open L2 (V HO Hp Key Cx)
section
variable {X : Cx} {c : Cfg}
theorem bls_ok {w : Wd} : ∀ {us : List U} {vs : List V} {bs : List Bool}, RUs c w us vs → bls us = some bs → vs = bs.map V.bl
  | [], _, _, .nil, h => by cases h; rfl
  | u :: us, _, _, .cons r rs, h => by
    cases r with
    | d r =>
      cases r with
      | bl b =>
        rw [bls, Option.map_eq_some_iff] at h
        obtain ⟨bs, h, rfl⟩ := h
        rw [bls_ok rs h]; rfl
      | _ => cases h
    | r e => cases h
theorem ints_ok {w : Wd} : ∀ {us : List U} {vs : List V} {bs : List Int}, RUs c w us vs → intsOf us = some bs → vs = bs.map V.int
  | [], _, _, .nil, h => by cases h; rfl
  | u :: us, _, _, .cons r rs, h => by
    cases r with
    | d r =>
      cases r with
      | int b =>
        rw [intsOf, Option.map_eq_some_iff] at h
        obtain ⟨bs, h, rfl⟩ := h
        rw [ints_ok rs h]; rfl
      | _ => cases h
    | r e => cases h
theorem strs_ok {w : Wd} : ∀ {us : List U} {vs : List V} {bs : List S}, RUs c w us vs → strsOf us = some bs → vs = (bs.map sOf).map V.str
  | [], _, _, .nil, h => by cases h; rfl
  | u :: us, _, _, .cons r rs, h => by
    cases r with
    | d r =>
      cases r with
      | str b =>
        rw [strsOf, Option.map_eq_some_iff] at h
        obtain ⟨bs, h, rfl⟩ := h
        rw [strs_ok rs h]; rfl
      | _ => cases h
    | r e => cases h
theorem RUs.one {w : Wd} {u : U} {vs : List V} (h : RUs c w [u] vs) : ∃ v, vs = [v] ∧ RU c w u v := by
  cases h with
  | cons r rs => cases rs; exact ⟨_, rfl, r⟩
theorem RUs.two {w : Wd} {u u' : U} {vs : List V} (h : RUs c w [u, u'] vs) : ∃ v v', vs = [v, v'] ∧ RU c w u v ∧ RU c w u' v' := by
  cases h with
  | cons r rs =>
    obtain ⟨v', rfl, r'⟩ := rs.one
    exact ⟨_, _, rfl, r, r'⟩
/-! ### len -/
theorem call_lenR : L2.CallR X (.builtin "len") (fun xs H Q => ∃ a kvs, xs = [V.ref a] ∧ L2.Rd H a (.dK kvs) ∧ Q (.int kvs.length) H) := by
  intro pins s σ H xs us Q I r h
  obtain ⟨a, kvs, rfl, ha, q⟩ := h
  obtain ⟨u, rfl, ru⟩ := L2.vals1 r
  cases ru
  exact L2.d_len I ha fun t s' I' => ⟨.int kvs.length, H, I', ⟨t, rfl⟩, q⟩
theorem leaf_len (hK : X.K = c.K) : LeafC X c (.builtin "len") (fun s us => bfun .val .len s us) := by
  refine ⟨_, orC L2.call_len call_lenR, fun W w us vs Q ok rs h => ?_⟩
  cases us with
  | nil => exact h.elim
  | cons u us =>
    cases us with
    | cons _ _ => exact h.elim
    | nil =>
      obtain ⟨v, rfl, r⟩ := rs.one
      obtain ⟨y, e, h⟩ := OutE.of0 h
      rw [Option.map_eq_some_iff] at e
      obtain ⟨n, e, rfl⟩ := e
      have q : Q (.int n) w.H := h.ret ok (.d (.int _))
      rw [lenU] at e
      cases e1 : lstOf w.s u with
      | some l =>
        simp only [e1] at e
        cases e
        obtain ⟨a, vs, rfl, h1, h2, h3⟩ := lstOf_ok ok r e1
        exact .inl ⟨_, _, rfl, .inl ⟨vs, by rw [hK]; exact h1, h2.length⟩, q⟩
      | none =>
        simp only [e1] at e
        cases e2 : tupOf u with
        | some l =>
          simp only [e2] at e
          cases e
          obtain ⟨a, vs, rfl, h1, h2, h3⟩ := tupOf_ok ok r e2
          exact .inl ⟨_, _, rfl, .inr ⟨vs, by rw [hK]; exact h1, h2.length⟩, q⟩
        | none =>
          simp only [e2] at e
          cases e3 : asStr u with
          | some z =>
            simp only [e3] at e
            cases e
            obtain ⟨rfl, hz⟩ := asStr_ok r e3
            exact .inl ⟨_, _, rfl, ⟨by rw [sOf_len]; exact hz, (sOf_len z).symm⟩, q⟩
          | none =>
            simp only [e3] at e
            cases e4 : dctOf w.s u with
            | none => simp only [e4] at e; cases e
            | some p =>
              obtain ⟨ks, ul⟩ := p
              simp only [e4] at e
              cases e
              obtain ⟨a, kvs, rfl, h1, h2, h3, h4, h5⟩ := dctOf_ok ok r e4
              have hl : kvs.length = ks.length := by simpa using congrArg List.length h3
              exact .inr ⟨a, kvs, rfl, h1, by rw [hl]; exact q⟩
theorem leaf_all (hK : X.K = c.K) (hc : X.calm = true) : LeafC X c (.builtin "all") (fun s us => bfun .val .all s us) := by
  refine ⟨_, L2.cr_all hc, fun W w us vs Q ok rs h => ?_⟩
  cases us with
  | nil => exact h.elim
  | cons u us =>
    cases us with
    | cons _ _ => exact h.elim
    | nil =>
      obtain ⟨v, rfl, r⟩ := rs.one
      simp only [bfun] at h
      cases e1 : lstOf w.s u with
      | none => simp only [e1] at h; exact h.elim
      | some l =>
        simp only [e1] at h
        obtain ⟨y, e, h⟩ := OutE.of0 h
        rw [Option.map_eq_some_iff] at e
        obtain ⟨bs, e, rfl⟩ := e
        obtain ⟨a, vs, rfl, h1, h2, h3⟩ := lstOf_ok ok r e1
        obtain rfl := bls_ok h2 e
        exact ⟨a, bs, rfl, by rw [hK]; exact h1, h.ret ok (.d (.bl _))⟩
theorem leaf_any (hK : X.K = c.K) (hc : X.calm = true) : LeafC X c (.builtin "any") (fun s us => bfun .val .any s us) := by
  refine ⟨_, L2.cr_any hc, fun W w us vs Q ok rs h => ?_⟩
  cases us with
  | nil => exact h.elim
  | cons u us =>
    cases us with
    | cons _ _ => exact h.elim
    | nil =>
      obtain ⟨v, rfl, r⟩ := rs.one
      simp only [bfun] at h
      cases e1 : lstOf w.s u with
      | none => simp only [e1] at h; exact h.elim
      | some l =>
        simp only [e1] at h
        obtain ⟨y, e, h⟩ := OutE.of0 h
        rw [Option.map_eq_some_iff] at e
        obtain ⟨bs, e, rfl⟩ := e
        obtain ⟨a, vs, rfl, h1, h2, h3⟩ := lstOf_ok ok r e1
        obtain rfl := bls_ok h2 e
        exact ⟨a, bs, rfl, by rw [hK]; exact h1, h.ret ok (.d (.bl _))⟩
theorem leaf_sum (hK : X.K = c.K) (hc : X.calm = true) : LeafC X c (.builtin "sum") (fun s us => bfun .val .sum s us) := by
  refine ⟨_, L2.cr_sum hc, fun W w us vs Q ok rs h => ?_⟩
  cases us with
  | nil => exact h.elim
  | cons u us =>
    cases us with
    | cons _ _ => exact h.elim
    | nil =>
      obtain ⟨v, rfl, r⟩ := rs.one
      simp only [bfun] at h
      cases e1 : lstOf w.s u with
      | none => simp only [e1] at h; exact h.elim
      | some l =>
        simp only [e1] at h
        obtain ⟨y, e, h⟩ := OutE.of0 h
        rw [Option.map_eq_some_iff] at e
        obtain ⟨bs, e, rfl⟩ := e
        obtain ⟨a, vs, rfl, h1, h2, h3⟩ := lstOf_ok ok r e1
        obtain rfl := ints_ok h2 e
        exact ⟨a, bs, rfl, by rw [hK]; exact h1, h.ret ok (.d (.int _))⟩
theorem leaf_abs : LeafC X c (.builtin "abs") (fun s us => bfun .val .abs s us) := by
  refine ⟨_, L2.call_abs, fun W w us vs Q ok rs h => ?_⟩
  cases us with
  | nil => exact h.elim
  | cons u us =>
    cases us with
    | cons _ _ => exact h.elim
    | nil =>
      obtain ⟨v, rfl, r⟩ := rs.one
      simp only [bfun] at h
      cases e : asInt u with
      | none => simp only [e] at h; exact h.elim
      | some i =>
        simp only [e] at h
        obtain rfl := asInt_ok r e
        exact ⟨i, rfl, h.ret ok (.d (.int _))⟩
/-! ### what toD reads -/
theorem toDs_len {s : Stk} {n : Nat} : ∀ {us : List U} {xs : List D}, toDs s n us = some xs → us.length = xs.length
  | [], _, h => by cases h; rfl
  | u :: us, xs, h => by
    obtain ⟨x, l', q1, q2, rfl⟩ := toDs_cons h
    rw [List.length_cons, toDs_len q2]; rfl
theorem toD_lst {w : Wd} (ok : OkW c w) {n : Nat} {u : U} {v : V} {xs : List D} (r : RU c w u v) (h : toD w.s n u = some (.lst xs)) : ∃ us a vs, lstOf w.s u = some us ∧ v = .ref a ∧ w.H a = some (.lst vs) ∧ vs.length ≤ sizeLine ∧ RUs c w us vs ∧ us.length = xs.length ∧
    (us = xs.map .d ∨ ∃ m, toDs w.s m us = some xs) := by
  cases r with
  | d r =>
    rename_i x
    have e : toD w.s n (.d x) = some x := by cases n <;> rfl
    rw [e] at h; cases h
    cases r with
    | lst h1 h2 h3 => exact ⟨_, _, _, rfl, rfl, h1.1, h2, .of_d h3, by simp, .inl rfl⟩
  | @r g i a e =>
    cases n with
    | zero => cases h
    | succ n =>
      rw [toD] at h
      cases e2 : getL w.s.rs g i with
      | none => rw [e2] at h; cases h
      | some k =>
        rw [e2] at h
        cases k with
        | lst us =>
          have h : (match toDs w.s n us with | some l => some (D.lst l) | none => none) = some (.lst xs) := h
          cases e3 : toDs w.s n us with
          | none => rw [e3] at h; cases h
          | some l =>
            rw [e3] at h; cases h
            obtain ⟨vs, h1, h2, h3⟩ := ok.cell g i a _ e e2
            refine ⟨us, a, vs, by simp only [lstOf, e2], rfl, h1, h2, h3, ?_, .inr ⟨n, e3⟩⟩
            exact toDs_len e3
        | _ => cases h
theorem sortable_ok {xs : List D} (h : sortable xs = true) : pls dp xs = true ∧ (∀ x ∈ xs, x.isN = false ∧ x.isT0 = false) ∧ ∀ x ∈ xs, ∀ y ∈ xs, alk x y = true := by
  unfold sortable at h
  simp only [Bool.and_eq_true, List.all_eq_true, Bool.not_eq_true'] at h
  exact ⟨h.1, fun x hx => ⟨((h.2 x hx).1).1, ((h.2 x hx).1).2⟩, fun x hx y hy => (h.2 x hx).2 y hy⟩
theorem pls_mem : ∀ {n : Nat} {xs : List D}, pls n xs = true → ∀ x ∈ xs, pl n x = true
  | n, [], _, x, hx => by cases hx
  | n, y :: ys, h, x, hx => by
    rw [pls, Bool.and_eq_true] at h
    rcases List.mem_cons.mp hx with rfl | hx
    · exact h.1
    · exact pls_mem h.2 x hx
theorem alikeAll_of {x : D} {xs : List D} (h : sortable (x :: xs) = true) : PySem.W.AlikeAll (py x :: pys xs) := by
  obtain ⟨h1, h2, h3⟩ := sortable_ok h
  rw [show py x :: pys xs = (x :: xs).map py by rw [pys_map]; rfl]
  refine ⟨fun a ha b hb => ?_, fun a ha => ?_⟩
  · obtain ⟨a, ha', rfl⟩ := List.mem_map.mp ha
    obtain ⟨b, hb', rfl⟩ := List.mem_map.mp hb
    exact alk_py a b (h3 a ha' b hb')
  · obtain ⟨a, ha', rfl⟩ := List.mem_map.mp ha
    have := (h2 a ha').1
    intro e
    cases a <;> first | exact absurd this (by decide) | cases e
theorem minL_py (x : D) : ∀ (xs : List D), (∀ a ∈ x :: xs, ∀ b ∈ x :: xs, alk a b = true) → py (minL x xs) = PySem.W.minD (py x) (pys xs) ∧ minL x xs ∈ x :: xs := by
  intro xs
  unfold minL PySem.W.minD
  induction xs generalizing x with
  | nil => intro _; exact ⟨rfl, by simp⟩
  | cons y ys ih =>
    intro h
    simp only [pys, List.foldl_cons]
    rw [← ltD_py y x (h y (by simp) x (by simp))]
    by_cases q : ltD y x = true
    · rw [if_pos q, if_pos q]
      obtain ⟨a, b⟩ := ih y fun a ha b hb => h a (List.mem_cons_of_mem _ ha) b (List.mem_cons_of_mem _ hb)
      exact ⟨a, List.mem_cons_of_mem _ b⟩
    · rw [if_neg q, if_neg q]
      have sub : ∀ a, a ∈ x :: ys → a ∈ x :: y :: ys := fun a ha => by
        rcases List.mem_cons.mp ha with rfl | ha
        · simp
        · simp [ha]
      obtain ⟨a, b⟩ := ih x fun a ha b hb => h a (sub a ha) b (sub b hb)
      exact ⟨a, sub _ b⟩
theorem maxL_py (x : D) : ∀ (xs : List D), (∀ a ∈ x :: xs, ∀ b ∈ x :: xs, alk a b = true) → py (maxL x xs) = PySem.W.maxD (py x) (pys xs) ∧ maxL x xs ∈ x :: xs := by
  intro xs
  unfold maxL PySem.W.maxD
  induction xs generalizing x with
  | nil => intro _; exact ⟨rfl, by simp⟩
  | cons y ys ih =>
    intro h
    simp only [pys, List.foldl_cons]
    rw [← ltD_py x y (h x (by simp) y (by simp))]
    by_cases q : ltD x y = true
    · rw [if_pos q, if_pos q]
      obtain ⟨a, b⟩ := ih y fun a ha b hb => h a (List.mem_cons_of_mem _ ha) b (List.mem_cons_of_mem _ hb)
      exact ⟨a, List.mem_cons_of_mem _ b⟩
    · rw [if_neg q, if_neg q]
      have sub : ∀ a, a ∈ x :: ys → a ∈ x :: y :: ys := fun a ha => by
        rcases List.mem_cons.mp ha with rfl | ha
        · simp
        · simp [ha]
      obtain ⟨a, b⟩ := ih x fun a ha b hb => h a (sub a ha) b (sub b hb)
      exact ⟨a, sub _ b⟩
theorem flat_fin {w : Wd} {W : L2.XK} {x y : D} {Q : V → Hp → Prop} (ok : OkW c w) (hf : x.flat = true) (al : alk x y = true) (ln : ∀ z, y = .str z → z.length ≤ sizeLine) (h : OutE c W w (RU c) (.ok (.d y) w.s) Q) :
    (∃ i, py y = .int i ∧ Q (.int i) w.H) ∨ ∃ z, py y = .str z ∧ Q (.str z) w.H := by
  cases x with
  | int i => cases y <;> simp [alk] at al; exact .inl ⟨_, rfl, h.ret ok (.d (.int _))⟩
  | str z => cases y <;> simp [alk] at al; exact .inr ⟨_, rfl, h.ret ok (.d (.str (ln _ rfl)))⟩
  | _ => cases hf
theorem RDs.mem {H : Hp} {L : Addr → Prop} : ∀ {xs : List D} {vs : List V}, RDs c H L xs vs → ∀ x ∈ xs, ∃ v, RD c H L x v
  | _, _, .nil, x, hx => by cases hx
  | _, _, .cons h r, x, hx => by
    rcases List.mem_cons.mp hx with rfl | hx
    · exact ⟨_, h⟩
    · exact RDs.mem r x hx
theorem toD_str {w : Wd} (ok : OkW c w) : ∀ {n : Nat} {u : U} {v : V} {z : S}, RU c w u v → toD w.s n u = some (.str z) → z.length ≤ sizeLine := by
  intro n u v z r h
  cases r with
  | d r =>
    rename_i x
    have e : toD w.s n (.d x) = some x := by cases n <;> rfl
    rw [e] at h; cases h
    cases r; assumption
  | @r g i a e =>
    cases n with
    | zero => cases h
    | succ n =>
      rw [toD] at h
      split at h <;> first | cases h | (split at h <;> cases h)
theorem toDs_mem {s : Stk} {n : Nat} : ∀ {us : List U} {xs : List D}, toDs s n us = some xs → ∀ x ∈ xs, ∃ u ∈ us, toD s n u = some x
  | [], xs, h, x, hx => by cases h; cases hx
  | u :: us, xs, h, x, hx => by
    obtain ⟨y, l, e1, e2, rfl⟩ := toDs_cons h
    rcases List.mem_cons.mp hx with rfl | hx
    · exact ⟨u, by simp, e1⟩
    · obtain ⟨u', hu, e⟩ := toDs_mem e2 x hx
      exact ⟨u', List.mem_cons_of_mem _ hu, e⟩
theorem RUs.mem {w : Wd} {us : List U} {vs : List V} (h : RUs c w us vs) : ∀ u ∈ us, ∃ v, RU c w u v := by
  induction h with
  | nil => intro u hu; cases hu
  | cons r _ ih =>
    intro u hu
    rcases List.mem_cons.mp hu with rfl | hu
    · exact ⟨_, r⟩
    · exact ih u hu
theorem lst_strs {w : Wd} (ok : OkW c w) {us : List U} {vs : List V} {xs : List D} (rs : RUs c w us vs) (h : us = xs.map .d ∨ ∃ m, toDs w.s m us = some xs) : ∀ z, D.str z ∈ xs → z.length ≤ sizeLine := by
  intro z hz
  rcases h with rfl | ⟨m, h⟩
  · obtain ⟨v, r⟩ := rs.mem (.d (.str z)) (List.mem_map.mpr ⟨_, hz, rfl⟩)
    cases r with
    | d r => cases r; assumption
  · obtain ⟨u, hu, e⟩ := toDs_mem h _ hz
    obtain ⟨v, r⟩ := rs.mem u hu
    exact toD_str ok r e
theorem lst_dp {w : Wd} (ok : OkW c w) {us : List U} {vs : List V} {xs : List D} {m : Nat} (rs : RUs c w us vs) (p : pls m xs = true) (h : us = xs.map .d ∨ ∃ m, toDs w.s m us = some xs) : L2.DpAll c.K w.H vs (pys xs) := by
  rcases h with rfl | ⟨n, h⟩
  · have := rs.pus (pus_d' xs)
    exact this.dp _ _ m p
  · exact toDs_dp ok n m us vs xs h p rs
where
  pus_d' : ∀ l : List D, pus (l.map U.d) = some l
    | [] => rfl
    | x :: r => by rw [List.map_cons, pus, pus_d' r]; rfl
end
end Z
end

section
set_option autoImplicit false
set_option linter.all false
set_option maxRecDepth 100000
namespace Z
open PySem (Str sizeLine Value Addr PyData)
open L2 (V HO Hp Key Cx)
section
variable {X : Cx} {c : Cfg}
theorem leaf_min1 (hK : X.K = c.K) (hu : Rm X) (hc : X.calm = true) : LeafC X c (.builtin "min") (fun s us => bfun .val .min1 s us) := by
  refine ⟨_, call_minD hu hc, fun W w us vs Q ok rs h => ?_⟩
  cases us with
  | nil => exact h.elim
  | cons u us =>
    cases us with
    | cons _ _ => exact h.elim
    | nil =>
      obtain ⟨v, rfl, r⟩ := rs.one
      simp only [bfun] at h
      split at h
      · rename_i x xs e
        split at h
        · rename_i z
          rw [Bool.and_eq_true] at z
          obtain ⟨us, a, vs, h1, rfl, h2, h3, h4, h5, h6⟩ := toD_lst ok r e
          obtain ⟨s1, s2, s3⟩ := sortable_ok z.1
          obtain ⟨p1, p2⟩ := minL_py x xs s3
          refine ⟨a, vs, py x, pys xs, rfl, by rw [hK]; exact .inl (.inl h2), by rw [hK]; exact lst_dp ok h4 s1 h6, alikeAll_of z.1, Nat.le_trans (pls_plain (x :: xs) _ s1).2 (by decide), ?_⟩
          rw [← p1]
          exact flat_fin ok z.2 (s3 x (by simp) _ p2) (fun q e => lst_strs ok h4 h6 q (e ▸ p2)) h
        · exact h.elim
      · exact h.elim
theorem leaf_max1 (hK : X.K = c.K) (hu : Rm X) (hc : X.calm = true) : LeafC X c (.builtin "max") (fun s us => bfun .val .max1 s us) := by
  refine ⟨_, call_maxD hu hc, fun W w us vs Q ok rs h => ?_⟩
  cases us with
  | nil => exact h.elim
  | cons u us =>
    cases us with
    | cons _ _ => exact h.elim
    | nil =>
      obtain ⟨v, rfl, r⟩ := rs.one
      simp only [bfun] at h
      split at h
      · rename_i x xs e
        split at h
        · rename_i z
          rw [Bool.and_eq_true] at z
          obtain ⟨us, a, vs, h1, rfl, h2, h3, h4, h5, h6⟩ := toD_lst ok r e
          obtain ⟨s1, s2, s3⟩ := sortable_ok z.1
          obtain ⟨p1, p2⟩ := maxL_py x xs s3
          refine ⟨a, vs, py x, pys xs, rfl, by rw [hK]; exact .inl (.inl h2), by rw [hK]; exact lst_dp ok h4 s1 h6, alikeAll_of z.1, Nat.le_trans (pls_plain (x :: xs) _ s1).2 (by decide), ?_⟩
          rw [← p1]
          exact flat_fin ok z.2 (s3 x (by simp) _ p2) (fun q e => lst_strs ok h4 h6 q (e ▸ p2)) h
        · exact h.elim
      · exact h.elim
theorem leaf_min2 (hc : X.calm = true) : LeafC X c (.builtin "min") (fun s us => bfun .val .min2 s us) := by
  refine ⟨_, L2.call_min2 hc, fun W w us vs Q ok rs h => ?_⟩
  cases us with
  | nil => exact h.elim
  | cons u us =>
    cases us with
    | nil => exact h.elim
    | cons u' us =>
      cases us with
      | cons _ _ => exact h.elim
      | nil =>
        obtain ⟨v, v', rfl, r, r'⟩ := rs.two
        simp only [bfun] at h
        cases e : asInt u with
        | none => simp only [e] at h; exact h.elim
        | some i =>
          cases e' : asInt u' with
          | none => simp only [e, e'] at h; exact h.elim
          | some j =>
            simp only [e, e'] at h
            obtain rfl := asInt_ok r e
            obtain rfl := asInt_ok r' e'
            exact ⟨i, j, rfl, h.ret ok (.d (.int _))⟩
theorem leaf_max2 (hc : X.calm = true) : LeafC X c (.builtin "max") (fun s us => bfun .val .max2 s us) := by
  refine ⟨_, L2.call_max2 hc, fun W w us vs Q ok rs h => ?_⟩
  cases us with
  | nil => exact h.elim
  | cons u us =>
    cases us with
    | nil => exact h.elim
    | cons u' us =>
      cases us with
      | cons _ _ => exact h.elim
      | nil =>
        obtain ⟨v, v', rfl, r, r'⟩ := rs.two
        simp only [bfun] at h
        cases e : asInt u with
        | none => simp only [e] at h; exact h.elim
        | some i =>
          cases e' : asInt u' with
          | none => simp only [e, e'] at h; exact h.elim
          | some j =>
            simp only [e, e'] at h
            obtain rfl := asInt_ok r e
            obtain rfl := asInt_ok r' e'
            exact ⟨i, j, rfl, h.ret ok (.d (.int _))⟩
/-- the list that sorting gives, with the values that stand for it -/
theorem zip_fst {α β : Type} : ∀ {xs : List α} {ys : List β}, xs.length = ys.length → (xs.zip ys).map (·.1) = xs
  | [], [], _ => rfl
  | x :: xs, y :: ys, h => by rw [List.zip_cons_cons, List.map_cons, zip_fst (by simpa using h)]
theorem zip_snd {α β : Type} : ∀ {xs : List α} {ys : List β}, xs.length = ys.length → (xs.zip ys).map (·.2) = ys
  | [], [], _ => rfl
  | x :: xs, y :: ys, h => by rw [List.zip_cons_cons, List.map_cons, zip_snd (by simpa using h)]
theorem RDs.zip_mem {H : Hp} {L : Addr → Prop} : ∀ {xs : List D} {vs : List V}, RDs c H L xs vs → ∀ p ∈ xs.zip vs, RD c H L p.1 p.2
  | _, _, .nil, p, hp => by simp at hp
  | _, _, .cons h r, p, hp => by
    rw [List.zip_cons_cons] at hp
    rcases List.mem_cons.mp hp with rfl | hp
    · exact h
    · exact RDs.zip_mem r p hp
theorem RDs.of_mem {H : Hp} {L : Addr → Prop} : ∀ {ps : List (D × V)}, (∀ p ∈ ps, RD c H L p.1 p.2) → RDs c H L (ps.map (·.1)) (ps.map (·.2))
  | [], _ => .nil
  | p :: ps, h => .cons (h p (by simp)) (RDs.of_mem fun q hq => h q (List.mem_cons_of_mem _ hq))
theorem sort_zip {xs : List D} {vs : List V} (hl : xs.length = vs.length) (al : ∀ x ∈ xs, ∀ y ∈ xs, alk x y = true) :
    (((xs.zip vs).mergeSort fun p q => !PySem.W.dataLt (py q.1) (py p.1)).map (·.1)) = sortD xs := by
  unfold sortD
  rw [List.map_mergeSort (s := fun a b => !ltD b a), zip_fst hl]
  intro a ha b hb
  have h1 : a.1 ∈ xs := (List.of_mem_zip ha).1
  have h2 : b.1 ∈ xs := (List.of_mem_zip hb).1
  rw [ltD_py _ _ (al _ h2 _ h1)]
theorem noMix_ok {xs : List D} (h : noMix xs = true) (h2 : ∀ x ∈ xs, x.isN = false ∧ x.isT0 = false) : PySem.W.Sortable (xs.map py) := by
  unfold noMix at h
  rw [Bool.or_eq_true] at h
  rcases h with h | h
  · refine .inl fun d hd => ?_
    obtain ⟨x, hx, rfl⟩ := List.mem_map.mp hd
    have e := List.all_eq_true.mp h x hx
    have e2 := (h2 x hx).2
    cases x <;> simp [D.isT] at e
    rename_i ys
    cases ys with
    | nil => simp [D.isT0] at e2
    | cons y ys => exact ⟨py y, pys ys, by simp [py, pys]⟩
  · refine .inr fun d hd => ?_
    obtain ⟨x, hx, rfl⟩ := List.mem_map.mp hd
    have e := List.all_eq_true.mp h x hx
    have e2 := (h2 x hx).1
    cases x with
    | non => cases e2
    | tup ys => cases e
    | _ => exact ⟨(fun z => by cases z), (fun ys z => by cases z)⟩
theorem leaf_sorted (hK : X.K = c.K) (hu : Rm X) (m : Md) : LeafC X c (.builtin "sorted") (fun s us => bfun m .sorted s us) := by
  refine ⟨_, call_sortedD' hu, fun W w us vs Q ok rs h => ?_⟩
  cases us with
  | nil => exact h.elim
  | cons u us =>
    cases us with
    | cons _ _ => exact h.elim
    | nil =>
      obtain ⟨v, rfl, r⟩ := rs.one
      simp only [bfun] at h
      cases e1 : lstOf w.s u with
      | none => simp only [e1] at h; exact h.elim
      | some us =>
        simp only [e1] at h
        cases e2 : pus us with
        | none => simp only [e2] at h; exact h.elim
        | some xs =>
          simp only [e2] at h
          split at h
          · rename_i z
            rw [Bool.and_eq_true] at z
            obtain ⟨a, vs, rfl, h1, h2, h3⟩ := lstOf_ok ok r e1
            have rd := h2.pus e2
            obtain ⟨s1, s2, s3⟩ := sortable_ok z.1
            have hl : xs.length = vs.length := rd.length
            have ef := zip_fst hl
            have es := zip_snd hl
            have memx : ∀ p ∈ xs.zip vs, p.1 ∈ xs := fun p hp => (List.of_mem_zip hp).1
            have epy : (xs.zip vs).map (fun p => py p.1) = xs.map py := by
              show (xs.zip vs).map (py ∘ (·.1)) = _
              rw [← List.map_map, ef]
            refine ⟨a, xs.zip vs, rfl, by rw [hK, es]; exact h1, fun p hp => by rw [hK]; exact (rd.zip_mem p hp).dp _ _ dp (pls_mem s1 _ (memx p hp)), ?_, by rw [epy]; exact noMix_ok z.2 s2, fun p hp => Nat.le_trans (pl_plain _ _ (pls_mem s1 _ (memx p hp))).2 (by decide), ?_⟩
            · rw [epy]
              intro d hd d' hd'
              obtain ⟨x, hx, rfl⟩ := List.mem_map.mp hd
              obtain ⟨y, hy, rfl⟩ := List.mem_map.mp hd'
              exact alk_py x y (s3 x hx y hy)
            · have rs : RDs c w.H (Live w) (sortD xs) (((xs.zip vs).mergeSort fun p q => !PySem.W.dataLt (py q.1) (py p.1)).map (·.2)) := by
                rw [← sort_zip hl s3]
                exact RDs.of_mem fun p hp => rd.zip_mem p ((List.mergeSort_perm _ _).mem_iff.mp hp)
              exact mkL_out ok (.of_d rs) (by rw [List.length_map, List.length_mergeSort, List.length_zip, hl, Nat.min_self]; exact h3) h
          · exact h.elim
/-! ### types called -/
theorem call_tupleL (hK : X.K = c.K) : LeafC X c (.type "tuple") (fun s us => bty .val .tuple s us) := by
  refine ⟨_, L2.call_tuple_of, fun W w us vs Q ok rs h => ?_⟩
  cases us with
  | nil => exact h.elim
  | cons u us =>
    cases us with
    | cons _ _ => exact h.elim
    | nil =>
      obtain ⟨v, rfl, r⟩ := rs.one
      simp only [bty] at h
      cases e1 : lstOf w.s u with
      | some us =>
        simp only [e1] at h
        obtain ⟨y, e, h⟩ := OutE.of0 h
        rw [Option.map_eq_some_iff] at e
        obtain ⟨xs, e, rfl⟩ := e
        obtain ⟨a, vs, rfl, h1, h2, h3⟩ := lstOf_ok ok r e1
        refine ⟨a, vs, rfl, .inl ⟨by rw [hK]; exact h1, fun p hp => ?_⟩⟩
        have x := w.val_ext (o := .tup vs) ok hp
        exact h.val ok hp (.d (.tup (.inl ⟨.inl L2.upd_same, (w.val_free ok hp).2⟩) h3 ((h2.pus e).mono x.keeps)))
      | none =>
        simp only [e1] at h
        cases e2 : tupOf u with
        | none => simp only [e2] at h; exact h.elim
        | some us =>
          simp only [e2] at h
          obtain ⟨a, vs, rfl, h1, h2, h3⟩ := tupOf_ok ok r e2
          exact ⟨a, vs, rfl, .inr ⟨by rw [hK]; exact h1, h.ret ok r⟩⟩
theorem RUs.signs {w : Wd} : ∀ z : S, RUs c w (z.map fun n => .d (.str [n])) (z.map fun n => V.str ⟨#[n]⟩)
  | [] => .nil
  | n :: z => .cons (.d (show RD c w.H (Live w) (.str [n]) (.str (sOf [n])) from .str (show 1 ≤ sizeLine by decide))) (RUs.signs z)
theorem RUs.keys {w : Wd} : ∀ {ks : List Ky}, (∀ z, Ky.s z ∈ ks → z.length ≤ sizeLine) → RUs c w (ks.map fun k => .d (dkey k)) (ks.map fun k => L2.kV (kOf k))
  | [], _ => .nil
  | .i n :: ks, h => .cons (.d (.int n)) (RUs.keys fun z hz => h z (List.mem_cons_of_mem _ hz))
  | .s x :: ks, h => .cons (.d (.str (h x (by simp)))) (RUs.keys fun z hz => h z (List.mem_cons_of_mem _ hz))
theorem leaf_list (hK : X.K = c.K) (hc : X.calm = true) (m : Md) : LeafC X c (.type "list") (fun s us => bty m .list s us) := by
  refine ⟨_, orC L2.call_list_of (orC (call_listS hc) (L2.call_listD hc)), fun W w us vs Q ok rs h => ?_⟩
  cases us with
  | nil => exact h.elim
  | cons u us =>
    cases us with
    | cons _ _ => exact h.elim
    | nil =>
      obtain ⟨v, rfl, r⟩ := rs.one
      simp only [bty] at h
      cases e1 : lstOf w.s u with
      | some us =>
        simp only [e1] at h
        obtain ⟨a, vs, rfl, h1, h2, h3⟩ := lstOf_ok ok r e1
        exact .inl ⟨a, vs, rfl, .inl (by rw [hK]; exact h1), mkL_out ok h2 h3 h⟩
      | none =>
        simp only [e1] at h
        cases e2 : tupOf u with
        | some us =>
          simp only [e2] at h
          obtain ⟨a, vs, rfl, h1, h2, h3⟩ := tupOf_ok ok r e2
          exact .inl ⟨a, vs, rfl, .inr (by rw [hK]; exact h1), mkL_out ok h2 h3 h⟩
        | none =>
          simp only [e2] at h
          cases e3 : asStr u with
          | some z =>
            simp only [e3] at h
            obtain ⟨rfl, hz⟩ := asStr_ok r e3
            refine .inr (.inl ⟨sOf z, rfl, by rw [sOf_len]; exact hz, ?_⟩)
            have e : (sOf z).cps.toList = z := by simp [sOf]
            rw [e]
            exact mkL_out ok (.signs z) (by rw [List.length_map]; exact hz) h
          | none =>
            simp only [e3] at h
            cases e4 : dctOf w.s u with
            | none => simp only [e4] at h; exact h.elim
            | some p =>
              obtain ⟨ks, ul⟩ := p
              simp only [e4] at h
              obtain ⟨a, kvs, rfl, h1, h2, h3, h4, h5⟩ := dctOf_ok ok r e4
              refine .inr (.inr ⟨a, kvs, rfl, h1, ?_⟩)
              have e : (kvs.map fun kv => L2.kV kv.1) = ks.map fun k => L2.kV (kOf k) := by
                rw [show (fun kv : Key × V => L2.kV kv.1) = L2.kV ∘ (·.1) from rfl, ← List.map_map, h3, List.map_map]; rfl
              rw [e]
              split at h
              · rename_i z
                exact mkL_out ok (.keys fun y hy => by have := List.all_eq_true.mp z _ hy; simpa [kyLen, big_line] using this) (by rw [List.length_map, ← List.length_map (f := kOf), ← h3, List.length_map]; exact h2) h
              · exact h.elim
theorem asBl_ok {w : Wd} {u : U} {v : V} {i : Bool} (r : RU c w u v) (h : asBl u = some i) : v = .bl i := by
  cases r with
  | d r => cases r <;> first | (cases h; rfl) | cases h
  | r e => cases h
theorem leaf_int : LeafC X c (.type "int") (fun s us => bty .val .int s us) := by
  refine ⟨_, L2.call_int1, fun W w us vs Q ok rs h => ?_⟩
  cases us with
  | nil => exact h.elim
  | cons u us =>
    cases us with
    | cons _ _ => exact h.elim
    | nil =>
      obtain ⟨v, rfl, r⟩ := rs.one
      simp only [bty] at h
      cases e : asInt u with
      | some i =>
        simp only [e] at h
        obtain rfl := asInt_ok r e
        exact .inl ⟨i, rfl, h.ret ok (.d (.int _))⟩
      | none =>
        simp only [e] at h
        cases e2 : asBl u with
        | none => simp only [e2] at h; exact h.elim
        | some b =>
          simp only [e2] at h
          obtain rfl := asBl_ok r e2
          exact .inr ⟨b, rfl, h.ret ok (.d (.int _))⟩
end
end Z
end

section
set_option autoImplicit false
set_option linter.all false
set_option maxRecDepth 100000
namespace Z
open PySem (Str sizeLine Value Addr PyData)
open L2 (V HO Hp Key Cx)
section
variable {X : Cx} {c : Cfg}
theorem leaf_bool : LeafC X c (.type "bool") (fun s us => bty .val .bool s us) := by
  refine ⟨_, L2.call_bool1, fun W w us vs Q ok rs h => ?_⟩
  cases us with
  | nil => exact h.elim
  | cons u us =>
    cases us with
    | cons _ _ => exact h.elim
    | nil =>
      obtain ⟨v, rfl, r⟩ := rs.one
      simp only [bty] at h
      cases e : asInt u with
      | some i =>
        simp only [e] at h
        obtain rfl := asInt_ok r e
        exact .inl ⟨_, rfl, h.ret ok (.d (.bl _))⟩
      | none =>
        simp only [e] at h
        cases e2 : asBl u with
        | none => simp only [e2] at h; exact h.elim
        | some b =>
          simp only [e2] at h
          obtain rfl := asBl_ok r e2
          exact .inr ⟨_, rfl, h.ret ok (.d (.bl _))⟩
theorem truth_ok {w : Wd} (ok : OkW c w) {u : U} {v : V} {b : Bool} (r : RU c w u v) (h : truth w.s u = some b) : L2.TruV c.K v w.H b := by
  cases r with
  | d r =>
    cases r with
    | non => cases h; rfl
    | bl => cases h; rfl
    | int => cases h; rfl
    | str hz => cases h; exact ⟨by rw [sOf_len]; exact hz, by rw [sOf_len]; cases (‹S›) <;> rfl⟩
    | lst h1 h2 h3 =>
      cases h
      refine .inl ⟨_, .inl (.inl h1.1), ?_⟩
      cases h3 <;> rfl
    | tup h1 h2 h3 =>
      cases h
      refine .inr (.inl ⟨_, h1.imp (fun h => h.1) id, ?_⟩)
      cases h3 <;> rfl
    | dct => cases h
    | obj => cases h
    | scr => cases h
  | @r g i a e =>
    rw [truth] at h
    cases e2 : getL w.s.rs g i with
    | none => rw [e2] at h; cases h
    | some k =>
      rw [e2] at h
      cases k with
      | gone => cases h
      | ins => cases h
      | lst xs =>
        cases h
        obtain ⟨vs, h1, h2, h3⟩ := ok.cell g i a _ e e2
        refine .inl ⟨_, .inl (.inl h1), ?_⟩
        cases h3 <;> rfl
      | dct ks xs =>
        cases h
        obtain ⟨kvs, h1, h2, h3, h4, h5⟩ := ok.cell g i a _ e e2
        refine .inr (.inr ⟨_, h1, ?_⟩)
        cases ks with
        | nil => cases kvs with
          | nil => rfl
          | cons _ _ => simp at h3
        | cons _ _ => cases kvs with
          | nil => simp at h3
          | cons _ _ => rfl
def tyOf : Ty → String
  | .str => "str" | .lst => "list" | .tup => "tuple" | .int => "int" | .bl => "bool" | .dct => "dict"
def tyNm : U → Option String
  | _ => none
theorem isTy_ok {w : Wd} (ok : OkW c w) {t : Ty} {u : U} {v : V} {b : Bool} (r : RU c w u v) (h : isTy w.s t u = some b) :
    ∃ n, L2.TyX c.K w.H v (.type n) ∧ L2.kitB n (tyOf t) = some b := by
  cases r with
  | d r =>
    cases r with
    | non => cases h; exact ⟨_, .base .non, by cases t <;> decide +kernel⟩
    | bl => cases h; exact ⟨_, .base (.bl _), by cases t <;> decide +kernel⟩
    | int => cases h; exact ⟨_, .base (.int _), by cases t <;> decide +kernel⟩
    | str hz => cases h; exact ⟨_, .base (.str _), by cases t <;> decide +kernel⟩
    | lst h1 h2 h3 => cases h; exact ⟨_, .base (.lst h1.1), by cases t <;> decide +kernel⟩
    | tup h1 h2 h3 =>
      cases h
      rcases h1 with ⟨h1 | ⟨o, h1⟩, _⟩ | ⟨o, its, n, h1, h2, _⟩
      · exact ⟨_, .base (.tup h1), by cases t <;> decide +kernel⟩
      · exact ⟨_, .fTuple h1, by cases t <;> decide +kernel⟩
      · exact ⟨_, .kTuple h1 h2, by cases t <;> decide +kernel⟩
    | dct h1 =>
      cases h
      rcases h1 with ⟨h1 | ⟨o, h1⟩, _⟩
      · exact ⟨_, .base (.dK h1), by cases t <;> decide +kernel⟩
      · exact ⟨_, .fDict h1, by cases t <;> decide +kernel⟩
    | obj => cases h
    | scr h1 h2 =>
      cases h
      rcases h1 with ⟨h1 | ⟨o, h1⟩, _⟩ | ⟨o, its, n, h1, h2, _⟩
      · exact ⟨_, .base (.lst h1), by cases t <;> decide +kernel⟩
      · exact ⟨_, .base (.frz h1), by cases t <;> decide +kernel⟩
      · exact ⟨_, .kList h1 h2, by cases t <;> decide +kernel⟩
  | @r g i a e =>
    rw [isTy] at h
    cases e2 : getL w.s.rs g i with
    | none => rw [e2] at h; cases h
    | some k =>
      rw [e2] at h
      cases k with
      | gone => cases h
      | ins => cases h
      | lst xs =>
        cases h
        obtain ⟨vs, h1, h2, h3⟩ := ok.cell g i a _ e e2
        exact ⟨_, .base (.lst h1), by cases t <;> decide +kernel⟩
      | dct ks xs =>
        cases h
        obtain ⟨kvs, h1, h2, h3, h4, h5⟩ := ok.cell g i a _ e e2
        exact ⟨_, .base (.dK h1), by cases t <;> decide +kernel⟩
end
end Z
end

section
set_option autoImplicit false
set_option linter.all false
set_option maxRecDepth 100000
namespace Z
open PySem (Str sizeLine Value Addr PyData)
open L2 (V HO Hp Key Cx)
/-- what an expression does, as a wish -/
def tG {α β : Type} (c : Cfg) (W : L2.XK) (R : Wd → α → β → Prop) (f : Env → Stk → RE α) (σ : L2.St) (H : Hp) (Q : β → Hp → Prop) : Prop :=
  ∃ (w : Wd) (ρ : Env), w.H = H ∧ OkW c w ∧ EnvR c w ρ σ ∧ OutE c W w R (f ρ w.s) Q
abbrev RB (_ : Wd) (b b' : Bool) : Prop := b = b'
def SE (c : Cfg) (X : Cx) (W : L2.XK) (e : PySem.Expr) (f : Env → Stk → RE U) : Prop := L2.PE X e (tG c W (RU c) f)
def RA (c : Cfg) (n : Nat) (w : Wd) (us : List U) (vs : List V) : Prop := RUs c w us vs ∧ vs.length = n
def SA (c : Cfg) (X : Cx) (W : L2.XK) (es : List PySem.Expr) (f : Env → Stk → RE (List U)) : Prop := L2.PA X es (tG c W (RA c es.length) f)
def SB (c : Cfg) (X : Cx) (W : L2.XK) (e : PySem.Expr) (f : Env → Stk → RE Bool) : Prop := L2.PT X e (tG c W RB f)
def SO (c : Cfg) (X : Cx) (W : L2.XK) (e : Option PySem.Expr) (f : Env → Stk → RE (Option Int)) : Prop := L2.PO X e (tG c W (fun _ a b => a = b) f)
theorem pe_weak {X : Cx} {e : PySem.Expr} {t u : L2.TE} (h : L2.PE X e t) (k : ∀ σ H Q, u σ H Q → t σ H Q) : L2.PE X e u := ⟨fun pins s σ H Q I q => h.run pins s σ H Q I (k σ H Q q)⟩
theorem pt_weak {X : Cx} {e : PySem.Expr} {t u : L2.TT} (h : L2.PT X e t) (k : ∀ σ H Q, u σ H Q → t σ H Q) : L2.PT X e u := ⟨fun pins s σ H Q I q => h.run pins s σ H Q I (k σ H Q q)⟩
theorem pa_weak {X : Cx} {e : List PySem.Expr} {t u : L2.TA} (h : L2.PA X e t) (k : ∀ σ H Q, u σ H Q → t σ H Q) : L2.PA X e u := ⟨fun pos pins s σ H Q I q => h.run pos pins s σ H Q I (k σ H Q q)⟩
theorem po_weak {X : Cx} {e : Option PySem.Expr} {t u : L2.TO} (h : L2.PO X e t) (k : ∀ σ H Q, u σ H Q → t σ H Q) : L2.PO X e u := ⟨fun pins s σ H Q I q => h.run _ _ _ _ _ I (k _ _ _ q)⟩
theorem pe_or2 {X : Cx} {e : PySem.Expr} {t u : L2.TE} (h : L2.PE X e t) (k : L2.PE X e u) : L2.PE X e (fun σ H Q => t σ H Q ∨ u σ H Q) := ⟨fun pins s σ H Q I q => q.elim (h.run pins s σ H Q I) (k.run pins s σ H Q I)⟩
theorem pe_all {ι : Type} {X : Cx} {e : PySem.Expr} {t : ι → L2.TE} (h : ∀ i, L2.PE X e (t i)) : L2.PE X e (fun σ H Q => ∃ i, t i σ H Q) := ⟨fun pins s σ H Q I q => q.elim fun i q => (h i).run pins s σ H Q I q⟩
section
variable {X : Cx} {c : Cfg} {W : L2.XK}
/-- one step: what follows is asked at the later world -/
theorem tG.bind {α β γ δ : Type} {R : Wd → α → β → Prop} {R' : Wd → γ → δ → Prop} {w : Wd} {ρ : Env} {σ : L2.St} {x : Env → Stk → RE α} {f : α → Stk → RE γ} {Q : δ → Hp → Prop} {N : β → Hp → Prop}
    (ok : OkW c w) (er : EnvR c w ρ σ) (h : OutE c W w R' ((x ρ w.s).bind f) Q)
    (n : ∀ (w1 : Wd) (u : α) (v : β), OkW c w1 → EnvR c w1 ρ σ → Ext w w1 → R w1 u v → OutE c W w1 R' (f u w1.s) Q → N v w1.H) : tG c W R x σ w.H N :=
  ⟨w, ρ, rfl, ok, er, h.bind fun w1 u v ok1 x1 r q => n w1 u v ok1 (er.mono x1) x1 r q⟩
theorem OutE.bindE {α β γ δ : Type} {w : Wd} {R : Wd → α → β → Prop} {R' : Wd → γ → δ → Prop} {x : RE α} {f : α → Stk → RE γ} {Q : δ → Hp → Prop} {N : β → Hp → Prop} (h : OutE c W w R' (x.bind f) Q)
    (n : ∀ (w1 : Wd) (u : α) (v : β), OkW c w1 → Ext w w1 → R w1 u v → x = .ok u w1.s → OutE c W w1 R' (f u w1.s) Q → N v w1.H) : OutE c W w R x N := by
  cases x with
  | ok u s' => exact fun w' v e ok x' r => n w' u v ok x' r (by rw [e]) (by rw [e]; exact OutE.mono x' h)
  | ex k vs s' => exact h
  | no => exact h
theorem tG.bindE {α β γ δ : Type} {R : Wd → α → β → Prop} {R' : Wd → γ → δ → Prop} {w : Wd} {ρ : Env} {σ : L2.St} {x : Env → Stk → RE α} {f : α → Stk → RE γ} {Q : δ → Hp → Prop} {N : β → Hp → Prop}
    (ok : OkW c w) (er : EnvR c w ρ σ) (h : OutE c W w R' ((x ρ w.s).bind f) Q)
    (n : ∀ (w1 : Wd) (u : α) (v : β), OkW c w1 → EnvR c w1 ρ σ → Ext w w1 → R w1 u v → x ρ w.s = .ok u w1.s → OutE c W w1 R' (f u w1.s) Q → N v w1.H) : tG c W R x σ w.H N :=
  ⟨w, ρ, rfl, ok, er, h.bindE fun w1 u v ok1 x1 r e q => n w1 u v ok1 (er.mono x1) x1 r e q⟩
/-- a value, whatever the world -/
theorem se_var {x : Str} {i : Nat} {pos : PySem.Pos} (hN : X.N[i]? = some x) (hv : L2.Vis X.env.scope x) (hd : (x == Str.ofString "__debug__") = false) (hcd : (x == Str.ofString "__classdict__") = false) :
    SE c X W (.Name x pos) (fun ρ s => RE.of (getV ρ i) s) :=
  pe_weak (L2.pe_var hN hv hd hcd) fun σ H Q ⟨w, ρ, e, ok, er, h⟩ => by
    obtain ⟨u, e1, h⟩ := h.of0
    have : ρ[i]? = some (some u) := by
      unfold getV at e1
      split at e1
      · rename_i e2; cases e1; exact e2
      · cases e1
    obtain ⟨v, e2, r⟩ := er.2 i u this
    subst e
    exact ⟨v, e2, h.ret ok r⟩
theorem se_vfz {x : Str} {i : Nat} {pos : PySem.Pos} (hN : X.N[i]? = some x) (hv : L2.Vis X.env.scope x) (hd : (x == Str.ofString "__debug__") = false) (hcd : (x == Str.ofString "__classdict__") = false) :
    SE c X W (.Name x pos) (fun ρ s => (RE.of (getV ρ i) s).bind fun u s => frzU 4 s u) :=
  pe_weak (L2.pe_var hN hv hd hcd) fun σ H Q ⟨w, ρ, e, ok, er, h⟩ => by
    obtain ⟨u, e1, h⟩ := h.of
    have : ρ[i]? = some (some u) := by
      unfold getV at e1
      split at e1
      · rename_i e2; cases e1; exact e2
      · cases e1
    obtain ⟨v, e2, r⟩ := er.2 i u this
    subst e
    refine ⟨v, e2, ?_⟩
    unfold frzU at h
    cases e3 : frz 4 w.s u with
    | none => rw [e3] at h; exact h.elim
    | some p =>
      obtain ⟨x, s'⟩ := p
      rw [e3] at h
      obtain ⟨o1, o2, o3⟩ := frz_ok 4 w u v x s' ok r e3
      exact h (w.st s') v rfl o1 o2 (.d o3)
theorem se_lit {e : PySem.Expr} {d : D} {v : V} (h : L2.PE X e (L2.tC v)) (r : ∀ (w : Wd), RD c w.H (Live w) d v) : SE c X W e (fun _ s => .ok (.d d) s) :=
  pe_weak h fun σ H Q ⟨w, ρ, e, ok, er, h⟩ => by
    subst e
    exact h.ret ok (.d (r w))
theorem sa_nil : SA c X W [] (fun _ s => .ok [] s) := pa_weak L2.pa_nil fun σ H Q ⟨w, ρ, e, ok, er, h⟩ => by
  subst e
  exact h.ret ok ⟨.nil, rfl⟩
theorem sa_cons {e : PySem.Expr} {es : List PySem.Expr} {f : Env → Stk → RE U} {g : Env → Stk → RE (List U)} (ha : SE c X W e f) (hr : SA c X W es g)
    (hs : PySem.starEach (e :: es) X.env = (false, PySem.eval e X.env) :: PySem.starEach es X.env) :
    SA c X W (e :: es) (fun ρ s => (f ρ s).bind fun u s => (g ρ s).bind fun us s => .ok (u :: us) s) :=
  pa_weak (L2.pa_cons ha hr hs) fun σ H Q ⟨w, ρ, e, ok, er, h⟩ => by
    subst e
    exact tG.bind ok er h fun w1 u v ok1 er1 x1 r h => tG.bind ok1 er1 h fun w2 us vs ok2 er2 x2 rs h => h.ret ok2 ⟨.cons (r.mono x2) rs.1, by rw [List.length_cons, rs.2]; rfl⟩
theorem po_nil : SO c X W none (fun _ s => .ok none s) := po_weak L2.po_none fun σ H Q ⟨w, ρ, e, ok, er, h⟩ => by
  subst e
  exact h.ret ok rfl
theorem po_one {e : PySem.Expr} {f : Env → Stk → RE U} (ha : SE c X W e f) : SO c X W (some e) (fun ρ s => (f ρ s).bind fun u s => (RE.of (asInt u) s).bind fun i s => .ok (some i) s) :=
  po_weak (L2.po_some ha) fun σ H Q ⟨w, ρ, e, ok, er, h⟩ => by
    subst e
    exact tG.bind ok er h fun w1 u v ok1 er1 x1 r h => by
      obtain ⟨i, e, h⟩ := h.of
      exact ⟨i, asInt_ok r e, h.ret ok1 rfl⟩
theorem se_tup {es : List PySem.Expr} {k : Nat} {pos : PySem.Pos} {g : Env → Stk → RE (List U)} (ha : SA c X W es g) (hz : es.length ≤ sizeLine) :
    SE c X W (.Tuple es k pos) (fun ρ s => (g ρ s).bind fun us s => RE.of (tupU us) s) :=
  pe_weak (L2.pe_tup ha) fun σ H Q ⟨w, ρ, e, ok, er, h⟩ => by
    subst e
    exact tG.bind ok er h fun w1 us vs ok1 er1 x1 r h => by
      obtain ⟨u, e, h⟩ := h.of0
      rw [tupU, Option.map_eq_some_iff] at e
      obtain ⟨xs, e, rfl⟩ := e
      have hl : vs.length ≤ sizeLine := by rw [r.2]; exact hz
      refine ⟨hl, fun p hp => ?_⟩
      have x := w1.val_ext (o := .tup vs) ok1 hp
      exact h.val ok1 hp (.d (.tup (.inl ⟨.inl L2.upd_same, (w1.val_free ok1 hp).2⟩) hl ((r.1.pus e).mono x.keeps)))
theorem se_lst {m : Md} {es : List PySem.Expr} {pos : PySem.Pos} {g : Env → Stk → RE (List U)} (ha : SA c X W es g) (hz : es.length ≤ sizeLine) :
    SE c X W (.List es pos) (fun ρ s => (g ρ s).bind fun us s => mkL m us s) :=
  pe_weak (L2.pe_lst ha) fun σ H Q ⟨w, ρ, e, ok, er, h⟩ => by
    subst e
    exact tG.bind ok er h fun w1 us vs ok1 er1 x1 r h => by
      have hl : vs.length ≤ sizeLine := by rw [r.2]; exact hz
      exact ⟨hl, mkL_out ok1 r.1 hl h⟩
theorem se_bin {m : Md} {o : BOp} {a b : PySem.Expr} {pos : PySem.Pos} {f g : Env → Stk → RE U} (ha : SE c X W a f) (hb : SE c X W b g) :
    SE c X W (.BinOp a (opOf o) b pos) (fun ρ s => (f ρ s).bind fun x s => (g ρ s).bind fun y s => binU m o s x y) := by
  obtain ⟨r, hr, hl⟩ := leaf_bin (X := X) (c := c) m o
  exact pe_weak (L2.pe_op hr ha hb) fun σ H Q ⟨w, ρ, e, ok, er, h⟩ => by
    subst e
    exact tG.bind ok er h fun w1 u v ok1 er1 x1 ru h => tG.bind ok1 er1 h fun w2 u' v' ok2 er2 x2 ru' h => hl _ _ _ _ _ _ _ ok2 (ru.mono x2) ru' h
theorem se_neg {a : PySem.Expr} {pos : PySem.Pos} {f : Env → Stk → RE U} (ha : SE c X W a f) :
    SE c X W (.UnaryOp .USub a pos) (fun ρ s => (f ρ s).bind fun x s => (RE.of (asInt x) s).bind fun i s => .ok (.d (.int (-i))) s) :=
  pe_weak (L2.pe_un L2.un_neg ha) fun σ H Q ⟨w, ρ, e, ok, er, h⟩ => by
    subst e
    exact tG.bind ok er h fun w1 u v ok1 er1 x1 ru h => by
      obtain ⟨i, e, h⟩ := h.of
      exact ⟨i, asInt_ok ru e, h.ret ok1 (.d (.int _))⟩
/-- an expression asked for its truth -/
abbrev tr (f : Env → Stk → RE U) : Env → Stk → RE Bool := fun ρ s => (f ρ s).bind fun u s => RE.of (truth s u) s
theorem bind_assoc {α β γ : Type} (x : RE α) (f : α → Stk → RE β) (g : β → Stk → RE γ) : (x.bind f).bind g = x.bind fun a s => (f a s).bind g := by cases x <;> rfl
section
variable (hK : X.K = c.K) (hu : Rm X)
include hK hu
theorem se_cmp {o : COp} {a b : PySem.Expr} {pos : PySem.Pos} {f g : Env → Stk → RE U} (ha : SE c X W a f) (hb : SE c X W b g) (hm : PySem.behindInMarks (copOf o) b = false) :
    SE c X W (.Compare a [copOf o] [b] pos) (fun ρ s => (f ρ s).bind fun x s => (g ρ s).bind fun y s => (RE.of (cmpU o s x y) s).bind fun b s => .ok (.d (.bl b)) s) := by
  obtain ⟨r, hr, hl⟩ := leaf_cmp hK hu o
  exact pe_weak (L2.pe_cmpR hr ha hb hm) fun σ H Q ⟨w, ρ, e, ok, er, h⟩ => by
    subst e
    exact tG.bind ok er h fun w1 u v ok1 er1 x1 ru h => tG.bind ok1 er1 h fun w2 u' v' ok2 er2 x2 ru' h => hl _ _ _ _ _ _ _ ok2 (ru.mono x2) ru' h
theorem cmp_bl {o : COp} {r : L2.R2} (hl : ∀ (W : L2.XK) (w : Wd) (x y : U) (u v : V) (Q : V → Hp → Prop), OkW c w → RU c w x u → RU c w y v → OutE c W w (RU c) ((RE.of (cmpU o w.s x y) w.s).bind fun b s => .ok (.d (.bl b)) s) Q → r u v w.H Q)
    {w : Wd} {x y : U} {u v : V} {Q : Bool → Hp → Prop} (ok : OkW c w) (ru : RU c w x u) (rv : RU c w y v) {γ δ : Type} {R : Wd → γ → δ → Prop} {k : Bool → Stk → RE γ} {Q' : δ → Hp → Prop}
    (h : OutE c W w R ((RE.of (cmpU o w.s x y) w.s).bind k) Q') (n : ∀ (w1 : Wd) (b : Bool), OkW c w1 → Ext w w1 → OutE c W w1 R (k b w1.s) Q' → Q b w1.H) :
    r u v w.H (fun v H' => ∃ k, v = V.bl k ∧ Q k H') := by
  obtain ⟨b, e, h⟩ := h.of
  refine hl W w x y u v _ ok ru rv ?_
  rw [e]
  intro w' v' e' ok' x' r'
  cases r' with
  | d r' =>
    cases r'
    exact ⟨b, rfl, n w' b ok' x' (by rw [e']; exact h.mono x')⟩
theorem se_cmp2 {o p : COp} {a b d : PySem.Expr} {pos : PySem.Pos} {f g k : Env → Stk → RE U} (ha : SE c X W a f) (hb : SE c X W b g) (hd : SE c X W d k) (hm : PySem.lastMarks [copOf o, copOf p] [b, d] = false) :
    SE c X W (.Compare a [copOf o, copOf p] [b, d] pos) (fun ρ s => (f ρ s).bind fun x s => (g ρ s).bind fun y s => (RE.of (cmpU o s x y) s).bind fun t s =>
      cond t ((k ρ s).bind fun z s => (RE.of (cmpU p s y z) s).bind fun b s => .ok (.d (.bl b)) s) (.ok (.d (.bl false)) s)) := by
  obtain ⟨r, hr, hl⟩ := leaf_cmp hK hu o
  obtain ⟨r', hr', hl'⟩ := leaf_cmp hK hu p
  exact pe_weak (L2.pe_chain hr hr' ha hb hd hm) fun σ H Q ⟨w, ρ, e, ok, er, h⟩ => by
    subst e
    exact tG.bind ok er h fun w1 u v ok1 er1 x1 ru h => tG.bind ok1 er1 h fun w2 u' v' ok2 er2 x2 ru' h => by
      refine cmp_bl hK hu (W := W) (Q := fun t H3 => if t = true then tG c W (RU c) k σ H3 (fun w' H4 => r' v' w' H4 Q) else Q (V.bl false) H3) hl ok2 (ru.mono x2) ru' h fun w3 t ok3 x3 h => ?_
      cases t with
      | true => exact tG.bind ok3 (er2.mono x3) h fun w4 u4 v4 ok4 er4 x4 ru4 h => hl' _ _ _ _ _ _ _ ok4 ((ru'.mono x3).mono x4) ru4 h
      | false => exact h.ret ok3 (.d (.bl _))
theorem se_and {a b : PySem.Expr} {rest : List PySem.Expr} {pos : PySem.Pos} {f g : Env → Stk → RE U} (ha : SE c X W a f) (hb : SE c X W (.BoolOp .And (b :: rest) pos) g) :
    SE c X W (.BoolOp .And (a :: b :: rest) pos) (fun ρ s => (f ρ s).bind fun x s => (RE.of (truth s x) s).bind fun t s => cond t (g ρ s) (.ok x s)) :=
  pe_weak (L2.pe_andT ha hb) fun σ H Q ⟨w, ρ, e, ok, er, h⟩ => by
    subst e
    exact tG.bind ok er h fun w1 u v ok1 er1 x1 ru h => by
      obtain ⟨t, e, h⟩ := h.of
      refine ⟨t, by rw [hK]; exact truth_ok ok1 ru e, ?_⟩
      cases t with
      | true => exact ⟨w1, ρ, rfl, ok1, er1, h⟩
      | false => exact h.ret ok1 ru
theorem se_or {a b : PySem.Expr} {rest : List PySem.Expr} {pos : PySem.Pos} {f g : Env → Stk → RE U} (ha : SE c X W a f) (hb : SE c X W (.BoolOp .Or (b :: rest) pos) g) :
    SE c X W (.BoolOp .Or (a :: b :: rest) pos) (fun ρ s => (f ρ s).bind fun x s => (RE.of (truth s x) s).bind fun t s => cond t (.ok x s) (g ρ s)) :=
  pe_weak (L2.pe_orT ha hb) fun σ H Q ⟨w, ρ, e, ok, er, h⟩ => by
    subst e
    exact tG.bind ok er h fun w1 u v ok1 er1 x1 ru h => by
      obtain ⟨t, e, h⟩ := h.of
      refine ⟨t, by rw [hK]; exact truth_ok ok1 ru e, ?_⟩
      cases t with
      | false => exact ⟨w1, ρ, rfl, ok1, er1, h⟩
      | true => exact h.ret ok1 ru
theorem se_not {a : PySem.Expr} {pos : PySem.Pos} {f : Env → Stk → RE U} (ha : SE c X W a f) :
    SE c X W (.UnaryOp .Not a pos) (fun ρ s => (f ρ s).bind fun x s => (RE.of (truth s x) s).bind fun t s => .ok (.d (.bl (!t))) s) :=
  pe_weak (L2.pe_notT ha) fun σ H Q ⟨w, ρ, e, ok, er, h⟩ => by
    subst e
    exact tG.bind ok er h fun w1 u v ok1 er1 x1 ru h => by
      obtain ⟨t, e, h⟩ := h.of
      exact ⟨t, by rw [hK]; exact truth_ok ok1 ru e, h.ret ok1 (.d (.bl _))⟩
/-! ### tests -/
theorem sb_plain {a : PySem.Expr} {f : Env → Stk → RE U} (ha : SE c X W a f) (he : ∀ whole : PySem.Sem Value, PySem.isTrue a X.env whole = (do let v ← whole; PySem.standAt a.pos; PySem.holding [v] (PySem.truthy v))) : SB c X W a (tr f) :=
  pt_weak (L2.pt_truth ha he) fun σ H Q ⟨w, ρ, e, ok, er, h⟩ => by
    subst e
    exact tG.bind ok er h fun w1 u v ok1 er1 x1 ru h => by
      obtain ⟨t, e, h⟩ := h.of0
      exact ⟨t, by rw [hK]; exact truth_ok ok1 ru e, h.ret ok1 rfl⟩
theorem sb_cmp {o : COp} {a b : PySem.Expr} {pos : PySem.Pos} {f g : Env → Stk → RE U} (ha : SE c X W a f) (hb : SE c X W b g) (hm : PySem.behindInMarks (copOf o) b = false) :
    SB c X W (.Compare a [copOf o] [b] pos) (tr fun ρ s => (f ρ s).bind fun x s => (g ρ s).bind fun y s => (RE.of (cmpU o s x y) s).bind fun b s => .ok (.d (.bl b)) s) := by
  obtain ⟨r, hr, hl⟩ := leaf_cmp hK hu o
  exact pt_weak (L2.pt_cmpR hr ha hb hm) fun σ H Q ⟨w, ρ, e, ok, er, h⟩ => by
    subst e
    simp only [tr, Z.bind_assoc] at h
    exact tG.bind ok er h fun w1 u v ok1 er1 x1 ru h => tG.bind ok1 er1 h fun w2 u' v' ok2 er2 x2 ru' h => by
      refine cmp_bl hK hu (W := W) (Q := Q) hl ok2 (ru.mono x2) ru' h fun w3 t ok3 x3 h => ?_
      exact OutE.ret (R := RB) ok3 h rfl
theorem sb_cmp2 {o p : COp} {a b d : PySem.Expr} {pos : PySem.Pos} {f g k : Env → Stk → RE U} (ha : SE c X W a f) (hb : SE c X W b g) (hd : SE c X W d k) (hm : PySem.lastMarks [copOf o, copOf p] [b, d] = false) :
    SB c X W (.Compare a [copOf o, copOf p] [b, d] pos) (tr fun ρ s => (f ρ s).bind fun x s => (g ρ s).bind fun y s => (RE.of (cmpU o s x y) s).bind fun t s =>
      cond t ((k ρ s).bind fun z s => (RE.of (cmpU p s y z) s).bind fun b s => .ok (.d (.bl b)) s) (.ok (.d (.bl false)) s)) := by
  obtain ⟨r, hr, hl⟩ := leaf_cmp hK hu o
  obtain ⟨r', hr', hl'⟩ := leaf_cmp hK hu p
  exact pt_weak (L2.pt_chain hr hr' ha hb hd hm) fun σ H Q ⟨w, ρ, e, ok, er, h⟩ => by
    subst e
    simp only [tr, Z.bind_assoc] at h
    exact tG.bind ok er h fun w1 u v ok1 er1 x1 ru h => tG.bind ok1 er1 h fun w2 u' v' ok2 er2 x2 ru' h => by
      refine cmp_bl hK hu (W := W) (Q := fun t H3 => if t = true then tG c W (RU c) k σ H3 (fun w' H4 => r' v' w' H4 fun x H' => ∃ k, x = V.bl k ∧ Q k H') else ∃ k, V.bl false = V.bl k ∧ Q k H3) hl ok2 (ru.mono x2) ru' h fun w3 t ok3 x3 h => ?_
      cases t with
      | true =>
        simp only [cond_true, bind_assoc] at h
        exact tG.bind ok3 (er2.mono x3) h fun w4 u4 v4 ok4 er4 x4 ru4 h => by
          refine cmp_bl hK hu (W := W) (Q := Q) hl' ok4 ((ru'.mono x3).mono x4) ru4 h fun w5 t ok5 x5 h => ?_
          exact OutE.ret (R := RB) ok5 h rfl
      | false => exact ⟨false, rfl, OutE.ret (R := RB) ok3 h rfl⟩
theorem sb_not {a : PySem.Expr} {pos : PySem.Pos} {f : Env → Stk → RE U} (ha : SB c X W a (tr f)) :
    SB c X W (.UnaryOp .Not a pos) (tr fun ρ s => (f ρ s).bind fun x s => (RE.of (truth s x) s).bind fun t s => .ok (.d (.bl (!t))) s) :=
  pt_weak (L2.pt_not ha) fun σ H Q ⟨w, ρ, e, ok, er, h⟩ => by
    subst e
    have e : ∀ s, (tr fun ρ s => (f ρ s).bind fun x s => (RE.of (truth s x) s).bind fun t s => .ok (.d (.bl (!t))) s) ρ s = (tr f ρ s).bind fun t s => .ok (!t) s := fun s => by
      simp only [tr, Z.bind_assoc]; rfl
    rw [e] at h
    exact tG.bind ok er h fun w1 t t' ok1 er1 x1 r h => by
      cases r
      exact OutE.ret (R := RB) ok1 h rfl
end
theorem tr_and {f g : Env → Stk → RE U} (ρ : Env) (s : Stk) : tr (fun ρ s => (f ρ s).bind fun x s => (RE.of (truth s x) s).bind fun t s => cond t (g ρ s) (.ok x s)) ρ s = (tr f ρ s).bind fun t s => cond t (tr g ρ s) (.ok false s) := by
  simp only [tr, Z.bind_assoc]
  congr 1
  funext u s
  cases e : truth s u with
  | none => rfl
  | some t =>
    show (cond t (g ρ s) (RE.ok u s)).bind _ = cond t _ _
    cases t with
    | true => rfl
    | false => show RE.of (truth s u) s = _; rw [e]; rfl
theorem tr_or {f g : Env → Stk → RE U} (ρ : Env) (s : Stk) : tr (fun ρ s => (f ρ s).bind fun x s => (RE.of (truth s x) s).bind fun t s => cond t (.ok x s) (g ρ s)) ρ s = (tr f ρ s).bind fun t s => cond t (.ok true s) (tr g ρ s) := by
  simp only [tr, Z.bind_assoc]
  congr 1
  funext u s
  cases e : truth s u with
  | none => rfl
  | some t =>
    show (cond t (RE.ok u s) (g ρ s)).bind _ = cond t _ _
    cases t with
    | false => rfl
    | true => show RE.of (truth s u) s = _; rw [e]; rfl
def SW (c : Cfg) (X : Cx) (W : L2.XK) (e : PySem.Expr) (f : Env → Stk → RE Bool) : Prop := L2.PW X e (tG c W RB f)
theorem pw_weak {X : Cx} {e : PySem.Expr} {t u : L2.TT} (h : L2.PW X e t) (k : ∀ σ H Q, u σ H Q → t σ H Q) : L2.PW X e u := ⟨fun wh pins s σ H Q I q => h.run wh pins s σ H Q I (k σ H Q q)⟩
theorem sw_and {a b : PySem.Expr} {rest : List PySem.Expr} {pos : PySem.Pos} {f g : Env → Stk → RE U} (ha : SB c X W a (tr f)) (hb : SW c X W (.BoolOp .And (b :: rest) pos) (tr g)) :
    SW c X W (.BoolOp .And (a :: b :: rest) pos) (tr fun ρ s => (f ρ s).bind fun x s => (RE.of (truth s x) s).bind fun t s => cond t (g ρ s) (.ok x s)) :=
  pw_weak (L2.pw_and ha hb) fun σ H Q ⟨w, ρ, e, ok, er, h⟩ => by
    subst e
    rw [tr_and] at h
    exact tG.bind ok er h fun w1 t t' ok1 er1 x1 r h => by
      cases r
      cases t with
      | true => exact ⟨w1, ρ, rfl, ok1, er1, h⟩
      | false => exact OutE.ret (R := RB) ok1 h rfl
theorem sw_or {a b : PySem.Expr} {rest : List PySem.Expr} {pos : PySem.Pos} {f g : Env → Stk → RE U} (ha : SB c X W a (tr f)) (hb : SW c X W (.BoolOp .Or (b :: rest) pos) (tr g)) :
    SW c X W (.BoolOp .Or (a :: b :: rest) pos) (tr fun ρ s => (f ρ s).bind fun x s => (RE.of (truth s x) s).bind fun t s => cond t (.ok x s) (g ρ s)) :=
  pw_weak (L2.pw_or ha hb) fun σ H Q ⟨w, ρ, e, ok, er, h⟩ => by
    subst e
    rw [tr_or] at h
    exact tG.bind ok er h fun w1 t t' ok1 er1 x1 r h => by
      cases r
      cases t with
      | false => exact ⟨w1, ρ, rfl, ok1, er1, h⟩
      | true => exact OutE.ret (R := RB) ok1 h rfl
theorem sw_and1 {a : PySem.Expr} {pos : PySem.Pos} {f : Env → Stk → RE U} (ha : SB c X W a (tr f)) : SW c X W (.BoolOp .And [a] pos) (tr f) := L2.pw_and1 ha
theorem sw_or1 {a : PySem.Expr} {pos : PySem.Pos} {f : Env → Stk → RE U} (ha : SB c X W a (tr f)) : SW c X W (.BoolOp .Or [a] pos) (tr f) := L2.pw_or1 ha
theorem se_one {a : PySem.Expr} {op : PySem.BoolOp} {pos : PySem.Pos} {f : Env → Stk → RE U} (ha : SE c X W a f) : SE c X W (.BoolOp op [a] pos) f := L2.pe_one ha
theorem se_ite {p a b : PySem.Expr} {pos : PySem.Pos} {f g k : Env → Stk → RE U} (hp : SB c X W p (tr f)) (ha : SE c X W a g) (hb : SE c X W b k) :
    SE c X W (.IfExp p a b pos) (fun ρ s => (f ρ s).bind fun x s => (RE.of (truth s x) s).bind fun t s => cond t (g ρ s) (k ρ s)) :=
  pe_weak (L2.pe_ifExp hp ha hb) fun σ H Q ⟨w, ρ, e, ok, er, h⟩ => by
    subst e
    replace h : OutE c W w (RU c) ((tr f ρ w.s).bind fun t s => cond t (g ρ s) (k ρ s)) Q := by
      rw [tr, Z.bind_assoc]; exact h
    refine tG.bind ok er h fun w1 t t' ok1 er1 x1 r h => ?_
    cases r
    cases t with
    | true => exact ⟨w1, ρ, rfl, ok1, er1, h⟩
    | false => exact ⟨w1, ρ, rfl, ok1, er1, h⟩
end
end Z
end

section
set_option autoImplicit false
set_option linter.all false
set_option maxRecDepth 100000
namespace Z
open PySem (Str sizeLine Value Addr PyData)
open L2 (V HO Hp Key Cx)
section
variable {X : Cx} {c : Cfg} {W : L2.XK}
theorem sIx_eq (n d : Nat) (o : Option Int) : sIx n d o = HT.sIx n d o := by
  cases o <;> rfl
theorem cut_eq (vs : List V) (lo hi : Option Int) : cut vs lo hi = L2.cutV vs lo hi := by
  rw [cut, L2.cutV, sIx_eq, sIx_eq]
theorem ixN_eq (n : Nat) (i : Int) : ixN n i = L2.ixN n i := rfl
theorem atI_get {w : Wd} {us : List U} {vs : List V} (rs : RUs c w us vs) {i : Int} {u : U} (h : atI us i = some u) : ∃ v, L2.atI vs i = some v ∧ RU c w u v := by
  unfold atI at h
  cases e : ixN us.length i with
  | none => rw [e] at h; cases h
  | some j =>
    rw [e] at h
    obtain ⟨v, e2, r⟩ := rs.get h
    refine ⟨v, ?_, r⟩
    rw [L2.atI, ← ixN_eq, ← rs.length, e]
    exact e2
theorem atI_eq {α : Type} (xs : List α) (i : Int) : L2.atI xs i = atI xs i := by
  rw [L2.atI, atI, ← ixN_eq]
  cases ixN xs.length i <;> rfl
theorem ix_or {r r' : L2.R2} (h : L2.IxR X r) (h' : L2.IxR X r') : L2.IxR X (fun x y H Q => r x y H Q ∨ r' x y H Q) :=
  fun value slice pins s σ H x y v u Q I r1 r2 q e => q.elim (fun q => h value slice pins s σ H x y v u Q I r1 r2 q e) (fun q => h' value slice pins s σ H x y v u Q I r1 r2 q e)
theorem sl_or {r r' : V → Option Int → Option Int → Hp → L2.VK → Prop} (h : L2.SlR X r) (h' : L2.SlR X r') : L2.SlR X (fun x l u H Q => r x l u H Q ∨ r' x l u H Q) :=
  fun pins s σ H x v vl vu lo hi sl Q I r1 r2 r3 r4 q => q.elim (fun q => h pins s σ H x v vl vu lo hi sl Q I r1 r2 r3 r4 q) (fun q => h' pins s σ H x v vl vu lo hi sl Q I r1 r2 r3 r4 q)
theorem se_ix (hK : X.K = c.K) (hu : Rm X) {a b : PySem.Expr} {pos : PySem.Pos} {f g : Env → Stk → RE U} (ha : SE c X W a f) (hb : SE c X W b g) (hs : L2.PlainIx b) :
    SE c X W (.Subscript a b pos) (fun ρ s => (f ρ s).bind fun x s => (g ρ s).bind fun y s => RE.of (ixU s x y) s) :=
  pe_weak (pe_or2 (L2.pe_ix (ix_or L2.ix_list (ix_or L2.ix_tup L2.ix_str)) ha hb hs) (L2.pe_dget (by have : X.A.units + 150 < PySem.cLine := hu; omega) ha hb hs)) fun σ H Q ⟨w, ρ, e, ok, er, h⟩ => by
    subst e
    by_cases hd : ∃ u s1 y s2, f ρ w.s = .ok u s1 ∧ g ρ s1 = .ok y s2 ∧ lstOf s2 u = none ∧ tupOf u = none ∧ asStr u = none
    · obtain ⟨u, s1, y, s2, e1, e2, e3, e4, e5⟩ := hd
      refine .inr (tG.bindE ok er h fun w1 u1 v1 ok1 er1 x1 ru ee h => tG.bindE ok1 er1 h fun w2 y2 v2 ok2 er2 x2 rv ee2 h => ?_)
      rw [e1] at ee
      injection ee with ea eb
      subst ea eb
      rw [e2] at ee2
      injection ee2 with ea eb
      subst ea eb
      obtain ⟨z, e, h⟩ := h.of0
      unfold ixU at e
      simp only [e3, e4, e5] at e
      cases e6 : dctOf w2.s u with
      | none => rw [e6] at e; cases e
      | some p =>
        obtain ⟨ks, us⟩ := p
        rw [e6] at e
        simp only at e
        cases e7 : kyOf y with
        | none => rw [e7] at e; cases e
        | some k =>
          rw [e7] at e
          simp only at e
          obtain ⟨a, kvs, rfl, h1, h2, h3, h4, h5⟩ := dctOf_ok ok2 (ru.mono x2) e6
          obtain rfl := kyOf_ok rv e7
          obtain ⟨v, e8, r⟩ := (valV_look k h3 h5).1 z e
          exact ⟨a, v, rfl, .inl ⟨kvs, _, h1, rfl, e8.symm⟩, h.ret ok2 r⟩
    · refine .inl (tG.bindE ok er h fun w1 u v1 ok1 er1 x1 ru ee h => tG.bindE ok1 er1 h fun w2 y v2 ok2 er2 x2 rv ee2 h => ?_)
      obtain ⟨z, e, h⟩ := h.of0
      unfold ixU at e
      cases e3 : lstOf w2.s u with
      | some us =>
        simp only [e3] at e
        cases e6 : asInt y with
        | none => rw [e6] at e; cases e
        | some j =>
          rw [e6] at e
          obtain ⟨a, vs, rfl, h1, h2, h3⟩ := lstOf_ok ok2 (ru.mono x2) e3
          obtain rfl := asInt_ok rv e6
          obtain ⟨v, e7, r⟩ := atI_get h2 e
          exact .inl ⟨a, vs, j, v, rfl, rfl, by rw [hK]; exact h1, e7, h.ret ok2 r⟩
      | none =>
        cases e4 : tupOf u with
        | some us =>
          simp only [e3, e4] at e
          cases e6 : asInt y with
          | none => rw [e6] at e; cases e
          | some j =>
            rw [e6] at e
            obtain ⟨a, vs, rfl, h1, h2, h3⟩ := tupOf_ok ok2 (ru.mono x2) e4
            obtain rfl := asInt_ok rv e6
            obtain ⟨v, e7, r⟩ := atI_get h2 e
            exact .inr (.inl ⟨a, vs, j, v, rfl, rfl, by rw [hK]; exact h1, e7, h.ret ok2 r⟩)
        | none =>
          cases e5 : asStr u with
          | none => exact absurd ⟨u, w1.s, y, w2.s, ee, ee2, e3, e4, e5⟩ hd
          | some x =>
            simp only [e3, e4, e5] at e
            cases e6 : asInt y with
            | none => rw [e6] at e; cases e
            | some j =>
              rw [e6] at e
              obtain ⟨rfl, hz⟩ := asStr_ok (ru.mono x2) e5
              obtain rfl := asInt_ok rv e6
              simp only at e
              rw [Option.map_eq_some_iff] at e
              obtain ⟨d, e7, rfl⟩ := e
              refine .inr (.inr ⟨sOf x, j, d, rfl, rfl, by rw [sOf_len]; exact hz, (by rw [atI_eq]; exact e7), h.ret ok2 (.d (.str (x := [d]) (show 1 ≤ sizeLine by decide)))⟩)
theorem se_slc (hK : X.K = c.K) {m : Md} {a : PySem.Expr} {lo hi : Option PySem.Expr} {pos p2 : PySem.Pos} {f : Env → Stk → RE U} {g k : Env → Stk → RE (Option Int)} (ha : SE c X W a f) (hl : SO c X W lo g) (hh : SO c X W hi k) :
    SE c X W (.Subscript a (.Slice lo hi none p2) pos) (fun ρ s => (f ρ s).bind fun x s => (g ρ s).bind fun l s => (k ρ s).bind fun h s => slcU m s x l h) :=
  pe_weak (L2.pe_slice (sl_or L2.sl_list L2.sl_str) ha hl hh) fun σ H Q ⟨w, ρ, e, ok, er, h⟩ => by
    subst e
    exact tG.bind ok er h fun w1 u v ok1 er1 x1 ru h => tG.bind ok1 er1 h fun w2 l l' ok2 er2 x2 rl h => tG.bind ok2 er2 h fun w3 i i' ok3 er3 x3 ri h => by
      cases rl
      cases ri
      have ru := (ru.mono x2).mono x3
      unfold slcU at h
      cases e3 : lstOf w3.s u with
      | some us =>
        simp only [e3] at h
        obtain ⟨a, vs, rfl, h1, h2, h3⟩ := lstOf_ok ok3 ru e3
        refine .inl ⟨a, vs, rfl, by rw [hK]; exact h1, ?_⟩
        rw [← cut_eq]
        exact mkL_out ok3 (h2.cut l i) (by rw [cut_eq]; exact Nat.le_trans (L2.cutV_length vs l i) h3) h
      | none =>
        simp only [e3] at h
        cases e5 : asStr u with
        | none => rw [e5] at h; exact h.elim
        | some x =>
          rw [e5] at h
          obtain ⟨rfl, hz⟩ := asStr_ok ru e5
          refine .inr ⟨sOf x, rfl, by rw [sOf_len]; exact hz, ?_⟩
          have e : L2.cutS (sOf x) l i = sOf (cut x l i) := by
            unfold L2.cutS sOf cut
            simp only [sIx_eq, Str.length, List.size_toArray]
          rw [e]
          refine h.ret ok3 (.d (.str ?_))
          have := L2.cutS_length (sOf x) l i
          rw [e, sOf_len, sOf_len] at this
          exact Nat.le_trans this hz
theorem se_rev (hK : X.K = c.K) {m : Md} {a : PySem.Expr} {k : Nat} {p1 p2 p3 pos : PySem.Pos} {f : Env → Stk → RE U} (ha : SE c X W a f) :
    SE c X W (.Subscript a (.Slice none none (some (.UnaryOp .USub (.Constant (.int 1) k p1) p2)) p3) pos) (fun ρ s => (f ρ s).bind fun x s => revU m s x) :=
  pe_weak (L2.pe_revL ha) fun σ H Q ⟨w, ρ, e, ok, er, h⟩ => by
    subst e
    exact tG.bind ok er h fun w1 u v ok1 er1 x1 ru h => by
      unfold revU at h
      cases e3 : lstW w1.s u with
      | none => rw [e3] at h; exact h.elim
      | some us =>
        rw [e3] at h
        obtain ⟨a, vs, rfl, h1, h2, h3⟩ := lstW_ok ok1 ru e3
        exact ⟨a, vs, rfl, .inl (.inl h1), mkL_out ok1 h2.rev (by rw [List.length_reverse]; exact h3) h⟩
/-! ### built-ins called -/
theorem se_leaf {v : Value} {x : Str} {p pos : PySem.Pos} {e : PySem.Expr} {es : List PySem.Expr} {g : Stk → List U → RE U} {f : Env → Stk → RE (List U)}
    (hr : ∀ r, L2.CallR X v r → ∀ t, L2.PA X (e :: es) t → L2.PE X (.Call (.Name x p) (e :: es) [] pos) (L2.tCB r t)) (hl : LeafC X c v g) (ha : SA c X W (e :: es) f) :
    SE c X W (.Call (.Name x p) (e :: es) [] pos) (fun ρ s => (f ρ s).bind fun us s => g s us) := by
  obtain ⟨r, h1, h2⟩ := hl
  exact pe_weak (hr r h1 _ ha) fun σ H Q ⟨w, ρ, e, ok, er, h⟩ => by
    subst e
    exact tG.bind ok er h fun w1 us vs ok1 er1 x1 rs h => h2 _ _ _ _ _ ok1 rs.1 h
end
end Z
end

section
set_option autoImplicit false
set_option linter.all false
set_option maxRecDepth 100000
namespace Z
open PySem (Str sizeLine Value Addr PyData)
open L2 (V HO Hp Key Cx)
theorem updC_ok {s : Stk} {u : U} {f : Cell → Option Cell} {oks : List U} : (∃ g i k k', u = .r g i ∧ getL s.rs g i = some k ∧ (g, i) ∉ s.lk ∧ f k = some k' ∧ oks.all (U.below g) = true ∧ updC s u f oks = .ok () (s.set g i k')) ∨ updC s u f oks = .no := by
  unfold updC
  cases u with
  | d x => exact .inr rfl
  | r g i =>
    simp only
    split
    · exact .inr rfl
    · rename_i h1
      cases h2 : getL s.rs g i with
      | none => exact .inr rfl
      | some k =>
        simp only
        cases h3 : f k with
        | none => exact .inr rfl
        | some k' =>
          simp only
          split
          · rename_i h4
            exact .inl ⟨g, i, k, k', rfl, h2, by simpa using h1, h3, h4, rfl⟩
          · exact .inr rfl
section
variable {X : Cx} {c : Cfg} {W : L2.XK}
theorem RU.cell {w : Wd} {g i : Nat} {v : V} (r : RU c w (.r g i) v) : ∃ a, v = .ref a ∧ getL w.ι g i = some a := by
  cases r with
  | r e => exact ⟨_, rfl, e⟩
theorem OutE.upd {γ δ : Type} {w : Wd} {u : U} {v : V} {f : Cell → Option Cell} {oks : List U} {R : Wd → γ → δ → Prop} {k : Unit → Stk → RE γ} {Q : δ → Hp → Prop} (ok : OkW c w) (r : RU c w u v)
    (h : OutE c W w R ((updC w.s u f oks).bind k) Q) : ∃ g i a k0 k', u = .r g i ∧ v = .ref a ∧ getL w.ι g i = some a ∧ getL w.s.rs g i = some k0 ∧ (g, i) ∉ w.s.lk ∧ f k0 = some k' ∧ oks.all (U.below g) = true ∧ OutE c W w R (k () (w.s.set g i k')) Q := by
  rcases updC_ok (s := w.s) (u := u) (f := f) (oks := oks) with ⟨g, i, k0, k', rfl, h1, h2, h3, h4, h5⟩ | e
  · obtain ⟨a, rfl, ea⟩ := r.cell
    rw [h5] at h
    exact ⟨g, i, a, k0, k', rfl, rfl, ea, h1, h2, h3, h4, h⟩
  · rw [e] at h; exact h.elim
/-- a cell changed: what follows is asked at the changed world -/
theorem put_all {w : Wd} (ok : OkW c w) {a : Addr} {o : HO} {g i : Nat} {k k0 : Cell} (ha : getL w.ι g i = some a) (hk : getL w.s.rs g i = some k0) (n0 : k0 ≠ .gone) (nl : (g, i) ∉ w.s.lk)
    (hcell : ∀ w' : Wd, Ext w w' → w'.H a = some o → CellR c w' a k) (hb : ∀ u ∈ k.us, U.below g u = true) : OkW c (w.put a o g i k) ∧ Ext w (w.put a o g i k) := ⟨Wd.put_ok ok ha hk n0 nl hcell hb, Wd.put_ext ok ha hk n0 nl⟩
theorem pe_bm1 {o e : PySem.Expr} {to te : L2.TE} {name : Str} {apos cpos : PySem.Pos} {T id : String} {r : V → List V → Hp → L2.VK → Prop} (pa : PySem.PlainAttrs T) (slot : PySem.Slot T name id) (hty : PySem.typeOf (Value.builtin id) = pure (Value.type "method_descriptor")) (hm : L2.MtR X id r) (ho : L2.PE X o to) (ha : L2.PE X e te)
    (hbase : PySem.attributeBase o name X.env (PySem.eval o X.env) = PySem.eval o X.env) (hline : (apos.endLine == cpos.line) = true) (hs : PySem.starEach [e] X.env = [(false, PySem.eval e X.env)]) :
    L2.PE X ((o.Attribute name apos).Call [e] [] cpos) (L2.tBM X.K T r to (L2.tCons te L2.tNil)) :=
  L2.pe_bm pa slot hty hm ho (L2.pa_cons ha L2.pa_nil hs) hbase (by rw [hs]; rfl) hline hs rfl
theorem OutE.one {γ δ : Type} {w : Wd} {R : Wd → γ → δ → Prop} {Q : δ → Hp → Prop} {x : RE U} {k : List U → Stk → RE γ} (h : OutE c W w R ((x.bind fun u s => (RE.ok (α := List U) [] s).bind fun us s => .ok (u :: us) s).bind k) Q) : OutE c W w R (x.bind fun u s => k [u] s) Q := by
  cases x <;> exact h
theorem bmW_ok {w : Wd} {u : U} {v : V} {K : PySem.W.Frag} (hK : K = c.K) (ok : OkW c w) (r : RU c w u v) (h : ((lstW w.s u).map fun _ => ()) = some ()) : L2.tyV K "list" v w.H := by
  rw [Option.map_eq_some_iff] at h
  obtain ⟨us, e, _⟩ := h
  obtain ⟨a, vs, rfl, h1, _, _⟩ := lstW_ok ok r e
  exact .inl ⟨rfl, vs, .inl (.inl h1)⟩
theorem se_append (hK : X.K = c.K) {o e : PySem.Expr} {apos cpos : PySem.Pos} {f g : Env → Stk → RE U} (ho : SE c X W o f) (ha : SE c X W e g)
    (hbase : PySem.attributeBase o (Str.ofString "append") X.env (PySem.eval o X.env) = PySem.eval o X.env) (hline : (apos.endLine == cpos.line) = true) (hs : PySem.starEach [e] X.env = [(false, PySem.eval e X.env)]) :
    SE c X W ((o.Attribute (Str.ofString "append") apos).Call [e] [] cpos) (fun ρ s => (f ρ s).bind fun x s => (RE.of (bmOk .append s x) s).bind fun _ s => ((g ρ s).bind fun u s => (RE.ok (α := List U) [] s).bind fun us s => .ok (u :: us) s).bind fun us s => bmeth .append s x us) :=
  pe_weak (pe_bm1 PySem.F.plainAttrs_list PySem.F.slot_list_append PySem.F.type_list_append L2.mt_append ho ha hbase hline hs) fun σ H Q ⟨w, ρ, e, ok, er, h⟩ => by
    subst e
    refine tG.bind ok er h fun w1 x v ok1 er1 x1 ru h => ?_
    obtain ⟨_, e, h⟩ := h.of
    refine ⟨bmW_ok hK ok1 ru e, tG.bind ok1 er1 h.one fun w2 y v2 ok2 er2 x2 rv h => ?_⟩
    have ru := ru.mono x2
    simp only [bmeth] at h
    obtain ⟨g, i, a, k0, k', rfl, rfl, ha, hk, nl, hf, hb, h⟩ := h.upd ok2 ru
    cases k0 with
    | lst xs =>
      simp only at hf
      split at hf
      · rename_i hz
        cases hf
        obtain ⟨vs, h1, h2, h3⟩ := ok2.cell g i a _ ha hk
        obtain ⟨ok3, x3⟩ := put_all (o := .lst (vs ++ [v2])) (k := .lst (xs ++ [y])) ok2 ha hk (by simp) nl (fun w' x e => ⟨_, e, by have := h3.length; rw [List.length_append]; simp; rw [← this]; rw [← big_line]; omega, (h3.mono x).append (.cons (rv.mono x) .nil)⟩) (fun u hu => by
          rcases List.mem_append.mp hu with hu | hu
          · exact ok2.low g i _ hk u hu
          · simp at hu; subst hu; simpa using hb)
        exact ⟨a, vs, v2, rfl, rfl, h1, by rw [← h3.length, ← big_line]; exact hz, h _ _ rfl ok3 x3 (.d .non)⟩
      · cases hf
    | _ => cases hf
theorem se_extend (hK : X.K = c.K) {o e : PySem.Expr} {apos cpos : PySem.Pos} {f g : Env → Stk → RE U} (ho : SE c X W o f) (ha : SE c X W e g)
    (hbase : PySem.attributeBase o (Str.ofString "extend") X.env (PySem.eval o X.env) = PySem.eval o X.env) (hline : (apos.endLine == cpos.line) = true) (hs : PySem.starEach [e] X.env = [(false, PySem.eval e X.env)]) :
    SE c X W ((o.Attribute (Str.ofString "extend") apos).Call [e] [] cpos) (fun ρ s => (f ρ s).bind fun x s => (RE.of (bmOk .extend s x) s).bind fun _ s => ((g ρ s).bind fun u s => (RE.ok (α := List U) [] s).bind fun us s => .ok (u :: us) s).bind fun us s => bmeth .extend s x us) :=
  pe_weak (pe_bm1 PySem.F.plainAttrs_list PySem.F.slot_list_extend PySem.F.type_list_extend L2.mt_extend ho ha hbase hline hs) fun σ H Q ⟨w, ρ, e, ok, er, h⟩ => by
    subst e
    refine tG.bind ok er h fun w1 x v ok1 er1 x1 ru h => ?_
    obtain ⟨_, e, h⟩ := h.of
    refine ⟨bmW_ok hK ok1 ru e, tG.bind ok1 er1 h.one fun w2 y v2 ok2 er2 x2 rv h => ?_⟩
    have ru := ru.mono x2
    simp only [bmeth] at h
    cases e2 : lstW w2.s y with
    | none => rw [e2] at h; exact h.elim
    | some ys =>
      rw [e2] at h
      obtain ⟨b, zs, rfl, hb1, hb2, hb3⟩ := lstW_ok ok2 rv e2
      obtain ⟨g, i, a, k0, k', rfl, rfl, ha, hk, nl, hf, hb, h⟩ := h.upd ok2 ru
      cases k0 with
      | lst xs =>
        simp only at hf
        split at hf
        · rename_i hz
          cases hf
          obtain ⟨vs, h1, h2, h3⟩ := ok2.cell g i a _ ha hk
          have hl : vs.length + zs.length ≤ sizeLine := by rw [← h3.length, ← hb2.length, ← big_line]; exact hz
          obtain ⟨ok3, x3⟩ := put_all (o := .lst (vs ++ zs)) (k := .lst (xs ++ ys)) ok2 ha hk (by simp) nl (fun w' x e => ⟨_, e, by rw [List.length_append]; exact hl, (h3.mono x).append (hb2.mono x)⟩) (fun u hu => by
            rcases List.mem_append.mp hu with hu | hu
            · exact ok2.low g i _ hk u hu
            · exact List.all_eq_true.mp hb u hu)
          exact ⟨a, b, vs, zs, rfl, rfl, h1, hb1, hl, h _ _ rfl ok3 x3 (.d .non)⟩
        · cases hf
      | _ => cases hf
end
end Z
end

section
set_option autoImplicit false
set_option linter.all false
set_option maxRecDepth 100000
namespace Z
open PySem (Str sizeLine Value Addr PyData)
open L2 (V HO Hp Key Cx)
section
variable {X : Cx} {c : Cfg} {W : L2.XK}
mutual
theorem lay_py : ∀ x : D, lay x = true → (py x).canLay0 = true
  | .non, _ => rfl
  | .bl _, _ => rfl
  | .int _, _ => rfl
  | .str x, h => by
    rw [py, PyData.canLay0, PyData.strOk]
    rw [lay] at h
    simpa [sOf] using h
  | .lst xs, h => by rw [py, PyData.canLay0]; exact lays_py xs (by simpa [lay] using h)
  | .tup xs, h => by rw [py, PyData.canLay0]; exact lays_py xs (by simpa [lay] using h)
  | .dct _ _, h => by simp [lay] at h
  | .obj _ _, h => by simp [lay] at h
  | .scr _, h => by simp [lay] at h
theorem lays_py : ∀ xs : List D, lays xs = true → PyData.canLayAll0 (pys xs) = true
  | [], _ => rfl
  | x :: xs, h => by
    rw [lays, Bool.and_eq_true] at h
    rw [pys, PyData.canLayAll0, lay_py x h.1, lays_py xs h.2]; rfl
end
theorem py_lst (xs : List D) : py (.lst xs) = .list (pys xs) := by simp [py]
theorem se_index (hK : X.K = c.K) (hu : Rm X) {o e : PySem.Expr} {apos cpos : PySem.Pos} {f g : Env → Stk → RE U} (ho : SE c X W o f) (ha : SE c X W e g)
    (hbase : PySem.attributeBase o (Str.ofString "index") X.env (PySem.eval o X.env) = PySem.eval o X.env) (hline : (apos.endLine == cpos.line) = true) (hs : PySem.starEach [e] X.env = [(false, PySem.eval e X.env)]) :
    SE c X W ((o.Attribute (Str.ofString "index") apos).Call [e] [] cpos) (fun ρ s => (f ρ s).bind fun x s => (RE.of (bmOk .index s x) s).bind fun _ s => ((g ρ s).bind fun u s => (RE.ok (α := List U) [] s).bind fun us s => .ok (u :: us) s).bind fun us s => bmeth .index s x us) :=
  pe_weak (pe_bm1 PySem.F.plainAttrs_list PySem.F.slot_list_index PySem.F.type_list_index (L2.mt_indexD (by have : X.A.units + 150 < PySem.cLine := hu; omega)) ho ha hbase hline hs) fun σ H Q ⟨w, ρ, e, ok, er, h⟩ => by
    subst e
    refine tG.bind ok er h fun w1 x v ok1 er1 x1 ru h => ?_
    obtain ⟨_, e, h⟩ := h.of
    refine ⟨bmW_ok hK ok1 ru e, tG.bind ok1 er1 h.one fun w2 y v2 ok2 er2 x2 rv h => ?_⟩
    have ru := ru.mono x2
    simp only [bmeth] at h
    cases e1 : toD w2.s 4 x with
    | none => simp only [e1] at h; exact h.elim
    | some dl =>
      cases dl with
      | lst xs =>
        cases e2 : toD w2.s 4 y with
        | none => simp only [e1, e2] at h; exact h.elim
        | some d =>
          simp only [e1, e2] at h
          split at h
          · rename_i z
            rw [Bool.and_eq_true] at z
            obtain ⟨n, e3, h⟩ := h.of0
            rw [Option.map_eq_some_iff] at e3
            obtain ⟨j, e3, rfl⟩ := e3
            obtain ⟨us, a, vs, h1, rfl, h2, h3, h4, h5, h6⟩ := toD_lst ok2 ru e1
            rw [Bool.and_eq_true, Bool.and_eq_true] at z
            obtain ⟨z, zl⟩ := z
            have p1 : pl (dp + 1) (.lst xs) = true := by simpa [pl] using z.1
            have d1 := toD_dp ok2 4 (dp + 1) _ _ _ e1 p1 ru
            have d2 := toD_dp ok2 4 dp _ _ _ e2 z.2 rv
            rw [py_lst] at d1
            have q1 := pl_plain _ _ p1
            have q2 := pl_plain _ _ z.2
            rw [py_lst] at q1
            rw [List.findIdx?_eq_some_iff_getElem] at e3
            obtain ⟨hj, he, hn⟩ := e3
            refine ⟨a, v2, py d, pys xs, j, py xs[j], rfl, rfl, by rw [hK]; exact d1, by rw [hK]; exact d2, ?_, ?_, ?_, ?_, ?_, h.ret ok2 (.d (.int _))⟩
            · rw [PySem.SeqAt.shaped, Bool.and_eq_true, decide_eq_true_eq]
              exact ⟨by rw [PyData.canLay0]; exact lays_py xs zl.1, Nat.le_trans q1.2 (by decide)⟩
            · rw [PySem.SeqAt.shaped, Bool.and_eq_true, decide_eq_true_eq]
              exact ⟨lay_py d zl.2, Nat.le_trans q2.2 (by decide)⟩
            · rw [pys_map, List.getElem?_map, List.getElem?_eq_getElem hj]; rfl
            · rw [← eqD_py]; exact he
            · intro m z' hm ez
              rw [pys_map, List.getElem?_map, List.getElem?_eq_getElem (by omega)] at ez
              cases ez
              rw [← eqD_py]
              simpa using hn m hm
          · exact h.elim
      | _ => simp only [e1] at h; exact h.elim
theorem joinS_glued (z : S) : ∀ ys : List S, PySem.Txt.join (sOf z) (ys.map sOf) = sOf (joinS z ys) := by
  have key : ∀ (ys : List S) (a : S), (List.foldl (fun acc (p : Str) => acc ++ (sOf z).cps ++ p.cps) (sOf a).cps (ys.map sOf)) = (sOf (a ++ (ys.map fun y => z ++ y).flatten)).cps := by
    intro ys
    induction ys with
    | nil => intro a; simp
    | cons y ys ih =>
      intro a
      have := ih (a ++ (z ++ y))
      simp only [List.map_cons, List.foldl_cons, List.flatten_cons]
      rw [show (sOf a).cps ++ (sOf z).cps ++ (sOf y).cps = (sOf (a ++ (z ++ y))).cps by simp [sOf], this]
      simp
  have js : ∀ (ys : List S) (a : S), joinS z (a :: ys) = a ++ (ys.map fun y => z ++ y).flatten := by
    intro ys
    induction ys with
    | nil => intro a; simp [joinS]
    | cons y ys ih => intro a; rw [joinS, ih]; simp
  intro ys
  cases ys with
  | nil => rfl
  | cons y ys =>
    rw [js]
    show Str.mk _ = _
    have := key ys y
    simp only [List.map_cons, List.headD_cons, List.drop_succ_cons, List.drop_zero]
    rw [this]
theorem se_join (hK : X.K = c.K) {o e : PySem.Expr} {apos cpos : PySem.Pos} {f g : Env → Stk → RE U} (ho : SE c X W o f) (ha : SE c X W e g)
    (hbase : PySem.attributeBase o (Str.ofString "join") X.env (PySem.eval o X.env) = PySem.eval o X.env) (hline : (apos.endLine == cpos.line) = true) (hs : PySem.starEach [e] X.env = [(false, PySem.eval e X.env)]) :
    SE c X W ((o.Attribute (Str.ofString "join") apos).Call [e] [] cpos) (fun ρ s => (f ρ s).bind fun x s => (RE.of (bmOk .join s x) s).bind fun _ s => ((g ρ s).bind fun u s => (RE.ok (α := List U) [] s).bind fun us s => .ok (u :: us) s).bind fun us s => bmeth .join s x us) :=
  pe_weak (pe_bm1 PySem.F.plainAttrs_str PySem.F.slot_str_join PySem.F.type_str_join L2.mt_join ho ha hbase hline hs) fun σ H Q ⟨w, ρ, e, ok, er, h⟩ => by
    subst e
    refine tG.bind ok er h fun w1 x v ok1 er1 x1 ru h => ?_
    obtain ⟨_, e, h⟩ := h.of
    simp only [bmOk] at e
    rw [Option.map_eq_some_iff] at e
    obtain ⟨z, e, _⟩ := e
    obtain ⟨rfl, hz⟩ := asStr_ok ru e
    refine ⟨rfl, tG.bind ok1 er1 h.one fun w2 y v2 ok2 er2 x2 rv h => ?_⟩
    simp only [bmeth, e] at h
    cases e2 : lstOf w2.s y with
    | none => simp only [e2] at h; exact h.elim
    | some us =>
      simp only [e2] at h
      cases e3 : strsOf us with
      | none => simp only [e3] at h; exact h.elim
      | some ys =>
        simp only [e3] at h
        split at h
        · rename_i q
          obtain ⟨a, vs, rfl, h1, h2, h3⟩ := lstOf_ok ok2 rv e2
          obtain rfl := strs_ok h2 e3
          refine ⟨sOf z, a, ys.map sOf, rfl, rfl, .inl (by rw [hK]; exact h1), ?_, ?_⟩
          · have := q.2
            rw [List.map_map, List.length_map, sOf_len]
            have e : ∀ ys : List S, (ys.map fun y => y.length + z.length).sum = (ys.map ((fun (x : Str) => x.length) ∘ sOf)).sum + ys.length * z.length := by
              intro ys
              induction ys with
              | nil => simp
              | cons y ys ih => simp only [List.map_cons, List.sum_cons, List.length_cons, ih, Nat.succ_mul, Function.comp, sOf_len]; omega
            rw [e] at this
            exact this
          · rw [joinS_glued]
            exact h.ret ok2 (.d (.str (by rw [← big_line]; exact q.1)))
        · exact h.elim
theorem se_get1 (hK : X.K = c.K) (hu : Rm X) {o e : PySem.Expr} {apos cpos : PySem.Pos} {f g : Env → Stk → RE U} (ho : SE c X W o f) (ha : SE c X W e g) (m : L2.M1 X o (Str.ofString "get") apos e cpos) :
    SE c X W ((o.Attribute (Str.ofString "get") apos).Call [e] [] cpos) (fun ρ s => (f ρ s).bind fun x s => (RE.of (bmOk .get1 s x) s).bind fun _ s => ((g ρ s).bind fun u s => (RE.ok (α := List U) [] s).bind fun us s => .ok (u :: us) s).bind fun us s => bmeth .get1 s x us) :=
  pe_weak (L2.pe_dget1 (by have : X.A.units + 150 < PySem.cLine := hu; omega) ho ha m) fun σ H Q ⟨w, ρ, e, ok, er, h⟩ => by
    subst e
    refine tG.bind ok er h fun w1 x v ok1 er1 x1 ru h => ?_
    obtain ⟨_, e, h⟩ := h.of
    simp only [bmOk] at e
    rw [Option.map_eq_some_iff] at e
    obtain ⟨⟨ks0, us0⟩, e, _⟩ := e
    obtain ⟨a, kvs0, rfl, g1, _⟩ := dctOf_ok ok1 ru e
    refine ⟨a, rfl, .inl ⟨_, g1⟩, tG.bind ok1 er1 h.one fun w2 y v2 ok2 er2 x2 rv h => ?_⟩
    simp only [bmeth] at h
    cases e1 : dctOf w2.s x with
    | none => simp only [e1] at h; exact h.elim
    | some p =>
      obtain ⟨ks, us⟩ := p
      cases e2 : kyOf y with
      | none => simp only [e1, e2] at h; exact h.elim
      | some k =>
        simp only [e1, e2] at h
        obtain ⟨a', kvs, ea, h1, h2, h3, h4, h5⟩ := dctOf_ok ok2 (ru.mono x2) e1
        cases ea
        obtain rfl := kyOf_ok rv e2
        obtain ⟨q1, q2, _⟩ := valV_look k h3 h5
        cases e3 : lookK ks us k with
        | none =>
          rw [e3] at h
          exact ⟨none, .inl ⟨kvs, _, h1, rfl, (q2 e3).symm⟩, h.ret ok2 (.d .non)⟩
        | some z =>
          rw [e3] at h
          obtain ⟨v, q, r⟩ := q1 z e3
          exact ⟨some v, .inl ⟨kvs, _, h1, rfl, q.symm⟩, h.ret ok2 r⟩
theorem OutE.two {γ δ : Type} {w : Wd} {R : Wd → γ → δ → Prop} {Q : δ → Hp → Prop} {x : RE U} {y : Stk → RE U} {k : List U → Stk → RE γ} (h : OutE c W w R ((x.bind fun u s => ((y s).bind fun u s => (RE.ok (α := List U) [] s).bind fun us s => .ok (u :: us) s).bind fun us s => .ok (u :: us) s).bind k) Q) : OutE c W w R (x.bind fun u s => (y s).bind fun u' s => k [u, u'] s) Q := by
  cases x with
  | ok u s =>
    show OutE c W w R ((y s).bind _) Q
    replace h : OutE c W w R ((((y s).bind fun u s => (RE.ok (α := List U) [] s).bind fun us s => .ok (u :: us) s).bind fun us s => .ok (u :: us) s).bind k) Q := h
    cases e : y s <;> (rw [e] at h; exact h)
  | ex => exact h
  | no => exact h
theorem se_get2 (hK : X.K = c.K) (hu : Rm X) {o e e' : PySem.Expr} {apos cpos : PySem.Pos} {f g g' : Env → Stk → RE U} (ho : SE c X W o f) (ha : SE c X W e g) (hb : SE c X W e' g') (m : L2.M2 X o (Str.ofString "get") apos e e' cpos) :
    SE c X W ((o.Attribute (Str.ofString "get") apos).Call [e, e'] [] cpos) (fun ρ s => (f ρ s).bind fun x s => (RE.of (bmOk .get2 s x) s).bind fun _ s => ((g ρ s).bind fun u s => ((g' ρ s).bind fun u s => (RE.ok (α := List U) [] s).bind fun us s => .ok (u :: us) s).bind fun us s => .ok (u :: us) s).bind fun us s => bmeth .get2 s x us) :=
  pe_weak (L2.pe_dget2 (by have : X.A.units + 150 < PySem.cLine := hu; omega) ho ha hb m) fun σ H Q ⟨w, ρ, e, ok, er, h⟩ => by
    subst e
    refine tG.bind ok er h fun w1 x v ok1 er1 x1 ru h => ?_
    obtain ⟨_, e, h⟩ := h.of
    simp only [bmOk] at e
    rw [Option.map_eq_some_iff] at e
    obtain ⟨⟨ks0, us0⟩, e, _⟩ := e
    obtain ⟨a, kvs0, rfl, g1, _⟩ := dctOf_ok ok1 ru e
    refine ⟨a, rfl, .inl ⟨_, g1⟩, tG.bind ok1 er1 h.two fun w2 y v2 ok2 er2 x2 rv h => tG.bind ok2 er2 h fun w3 y' v3 ok3 er3 x3 rv' h => ?_⟩
    simp only [bmeth] at h
    cases e1 : dctOf w3.s x with
    | none => simp only [e1] at h; exact h.elim
    | some p =>
      obtain ⟨ks, us⟩ := p
      cases e2 : kyOf y with
      | none => simp only [e1, e2] at h; exact h.elim
      | some k =>
        simp only [e1, e2] at h
        obtain ⟨a', kvs, ea, h1, h2, h3, h4, h5⟩ := dctOf_ok ok3 ((ru.mono x2).mono x3) e1
        cases ea
        obtain rfl := kyOf_ok rv e2
        obtain ⟨q1, q2, _⟩ := valV_look k h3 h5
        cases e3 : lookK ks us k with
        | none =>
          rw [e3] at h
          exact ⟨none, .inl ⟨kvs, _, h1, rfl, (q2 e3).symm⟩, h.ret ok3 rv'⟩
        | some z =>
          rw [e3] at h
          obtain ⟨v, q, r⟩ := q1 z e3
          exact ⟨some v, .inl ⟨kvs, _, h1, rfl, q.symm⟩, h.ret ok3 r⟩
end
end Z
end

section
set_option autoImplicit false
set_option linter.all false
set_option maxRecDepth 100000
namespace Z
open PySem (Str sizeLine Value Addr PyData Expr)
open L2 (V HO Hp Key Cx)
theorem meth_eval {o : Expr} {es : List Expr} {m : Str} {apos pos : PySem.Pos} {env : PySem.Env} (hbase : PySem.attributeBase o m env (PySem.eval o env) = PySem.eval o env)
   (hform : PySem.methodCallForm (es.length + ([] : List PySem.Keyword).length) (PySem.backTo pos (PySem.starEach es env)) (PySem.backToKw pos (PySem.keywordEach [] env)) = true) (hline : (apos.endLine == pos.line) = true) : PySem.eval ((o.Attribute m apos).Call es [] pos) env = (do
       let ov ← PySem.eval o env
       PySem.standAt apos.atName
       let __x ← PySem.holding [ov] (PySem.getMethod ov m (do let b ← PySem.importBound o env; pure (b.getD true)))
       match __x with
         | (f, first) => PySem.callWith pos f first (PySem.backTo pos (PySem.starEach es env)) (PySem.backToKw pos (PySem.keywordEach [] env))) := by
  rw [PySem.eval, hbase]
  simp only [PySem.methodCall, hform, PySem.calleeOf, PySem.methodCallPos, hline, Bool.not_true, Bool.false_or, if_true]
  rfl
def notStar : Expr → Bool
  | .Starred _ _ => false
  | _ => true
theorem star_cons {e : Expr} (h : notStar e = true) (es : List Expr) (env : PySem.Env) : PySem.starEach (e :: es) env = (false, PySem.eval e env) :: PySem.starEach es env := by
  cases e <;> first | rfl | cases h
theorem star_any {pos : PySem.Pos} {env : PySem.Env} : ∀ {es : List Expr}, es.all notStar = true → ((PySem.backTo pos (PySem.starEach es env)).any fun x => x.1) = false
  | [], _ => rfl
  | e :: es, h => by
    rw [List.all_cons, Bool.and_eq_true] at h
    rw [star_cons h.1]
    have := star_any (pos := pos) (env := env) h.2
    simpa [PySem.backTo] using this
theorem star_all {pos : PySem.Pos} {env : PySem.Env} : ∀ {es : List Expr}, es.all notStar = true → ((PySem.backTo pos (PySem.starEach es env)).all fun x => !x.1) = true
  | [], _ => rfl
  | e :: es, h => by
    rw [List.all_cons, Bool.and_eq_true] at h
    rw [star_cons h.1]
    have := star_all (pos := pos) (env := env) h.2
    simpa [PySem.backTo] using this
theorem star_form {pos : PySem.Pos} {env : PySem.Env} {es : List Expr} (h : es.all notStar = true) (hl : es.length < 30) :
    PySem.methodCallForm (es.length + ([] : List PySem.Keyword).length) (PySem.backTo pos (PySem.starEach es env)) (PySem.backToKw pos (PySem.keywordEach [] env)) = true := by
  unfold PySem.methodCallForm
  rw [star_all h]
  have e : PySem.backToKw pos (PySem.keywordEach [] env) = [] := by rw [PySem.keywordEach]; rfl
  rw [e]
  simpa using hl
/-- what a function keeps: its wish -/
def spF (c : Cfg) (g : List U → Stk → RE U) : L2.Sp := fun vs H Q E => ∃ (w : Wd) (us : List U), w.H = H ∧ OkW c w ∧ RUs c w us vs ∧ OutE c E w (RU c) (g us w.s) Q
section
variable {X : Cx} {c : Cfg} {W : L2.XK}
abbrev Tk (X : Cx) (W : L2.XK) : Prop := L2.Takes X (fun cls d _ H => W cls d H)
theorem tk_pass (tk : Tk X W) : L2.Passes (L2.CX X.prog X.w) X W := L2.passes_call tk fun _ _ _ _ h => h
theorem se_call {CX : L2.CXT} {k : Nat} {a : Addr} {fd : PySem.FuncData} {ps : List Str} {g : List U → Stk → RE U} {x : Str} {p pos : PySem.Pos} {es : List Expr} {f : Env → Stk → RE (List U)}
    (F : L2.FnOk X.prog X.w X.K X.mg X.base (L2.CX X.prog X.w) k a fd ps (spF c g)) (hr : L2.Room k X.A) (hg : L2.Gl X x) (hm : X.mg x = some (.ref a)) (hk : PySem.W.keepIn X.K (.ref a) = true) (hb : L2.Binds X.K fd ps []) (tk : Tk X W)
    (ha : SA c X W es f) (h0 : es = [] → f = fun _ s => .ok [] s) (hn : es.all notStar = true) (hdb : (x == Str.ofString "__debug__") = false) :
    SE c X W (.Call (.Name x p) es [] pos) (fun ρ s => (f ρ s).bind fun us s => g us s) := by
  have key : ∀ σ H Q, tG c W (RU c) (fun ρ s => (f ρ s).bind fun us s => g us s) σ H Q → L2.tCall (spF c g) [] W (tG c W (RA c es.length) f) σ H Q := fun σ H Q ⟨w, ρ, e, ok, er, h⟩ => by
    subst e
    exact tG.bind ok er h fun w1 us vs ok1 er1 x1 rs h => ⟨w1, us, rfl, ok1, by rw [List.append_nil]; exact rs.1, h⟩
  cases es with
  | nil =>
    refine pe_weak (L2.pe_call0 F hr hg hm hk hb (dvs := []) .nil (tk_pass tk) hdb) fun σ H Q h => ?_
    obtain rfl := h0 rfl
    obtain ⟨w, ρ, e, ok, er, h⟩ := h
    subst e
    exact ⟨w, [], rfl, ok, .nil, h⟩
  | cons e es =>
    rw [List.all_cons, Bool.and_eq_true] at hn
    exact pe_weak (L2.pe_call F hr hg hm hk hb (dvs := []) .nil (tk_pass tk) ha hdb (star_cons hn.1 _ _) (star_any hn.2)) key
theorem se_meth {ι : Type} {C : ι → Addr} {sp : ι → List U → Stk → RE U} {name : Str} {apos pos : PySem.Pos} {o : Expr} {es : List Expr} {f : Env → Stk → RE U} {g : Env → Stk → RE (List U)} {sel : Stk → U → Option ι}
    (hM : ∀ i, ∃ (k : Nat) (a : Addr) (fd : PySem.FuncData) (ps : List Str), L2.Cls X.K (C i) ∧ L2.Meth X.K (C i) name a ∧ L2.FnOk X.prog X.w X.K X.mg X.base (L2.CX X.prog X.w) k a fd ps (spF c (sp i)) ∧ L2.Room k X.A ∧ L2.Binds X.K fd ps [])
    (hsel : ∀ (w : Wd) (u : U) (v : V) (i : ι), OkW c w → RU c w u v → sel w.s u = some i → ∃ a dx fs, v = .ref a ∧ w.H a = some (.ins (C i) dx fs) ∧ fs.lookup name = none)
    (tk : Tk X W) (ho : SE c X W o f) (ha : SA c X W es g) (h0 : es = [] → g = fun _ s => .ok [] s) (i0 : ι) (hn : es.all notStar = true) (hl : es.length < 30) (hbase : PySem.attributeBase o name X.env (PySem.eval o X.env) = PySem.eval o X.env) (hline : (apos.endLine == pos.line) = true) :
    SE c X W ((o.Attribute name apos).Call es [] pos) (fun ρ s => (f ρ s).bind fun x s => (RE.of (sel s x) s).bind fun i s => (g ρ s).bind fun us s => sp i (x :: us) s) := by
  have hP : ∀ i, L2.PE X ((o.Attribute name apos).Call es [] pos) (L2.tMeth (C i) name (spF c (sp i)) [] W (tG c W (RU c) f) (tG c W (RA c es.length) g)) := fun i => by
    obtain ⟨k, a, fd, ps, h1, h2, h3, h4, h5⟩ := hM i
    cases es with
    | nil =>
      refine pe_weak (L2.pe_meth0 ho h1 h2 h3 h4 h5 (dvs := []) .nil (tk_pass tk) (meth_eval hbase (star_form hn hl) hline)) fun σ H Q h => ?_
      obtain rfl := h0 rfl
      obtain ⟨w, ρ, e, ok, er, h⟩ := h
      refine ⟨w, ρ, e, ok, er, ?_⟩
      cases e1 : f ρ w.s with
      | ok u s1 =>
        rw [e1] at h
        intro w' v e2 ok' x' r
        obtain ⟨a, dx, fs, h1, h2, h3, w2, ρ2, h4, h5, h6, h7⟩ := h w' v e2 ok' x' r
        refine ⟨a, dx, fs, h1, h2, h3, ?_⟩
        have := OutE.ret h5 h7 ⟨RUs.nil, rfl⟩
        rw [h4] at this
        exact this
      | ex k vs s1 => rw [e1] at h; exact h
      | no => rw [e1] at h; exact h
    | cons e es =>
      have hn' := hn
      rw [List.all_cons, Bool.and_eq_true] at hn'
      exact L2.pe_meth ho h1 h2 h3 h4 h5 (dvs := []) .nil (tk_pass tk) ha (star_cons hn'.1 _ _) (star_any hn'.2) (meth_eval hbase (star_form hn hl) hline)
  refine pe_weak (pe_all hP) fun σ H Q ⟨w, ρ, e, ok, er, h⟩ => ?_
  subst e
  by_cases hd : ∃ u s1 i, f ρ w.s = .ok u s1 ∧ sel s1 u = some i
  · obtain ⟨u, s1, i, e1, e2⟩ := hd
    refine ⟨i, tG.bindE ok er h fun w1 u1 v1 ok1 er1 x1 ru ee h => ?_⟩
    rw [e1] at ee
    injection ee with ea eb
    subst ea eb
    rw [e2] at h
    obtain ⟨a, dx, fs, rfl, h2, h3⟩ := hsel w1 u v1 i ok1 ru e2
    exact ⟨a, dx, fs, rfl, h2, h3, tG.bind ok1 er1 h fun w2 us vs ok2 er2 x2 rs h => ⟨w2, u :: us, rfl, ok2, by rw [List.append_nil]; exact .cons (ru.mono x2) rs.1, h⟩⟩
  · refine ⟨i0, tG.bindE ok er h fun w1 u1 v1 ok1 er1 x1 ru ee h => ?_⟩
    obtain ⟨i, e, _⟩ := h.of
    exact absurd ⟨u1, w1.s, i, ee, e⟩ hd
end
end Z
end

section
set_option autoImplicit false
set_option linter.all false
set_option maxRecDepth 100000
namespace Z
open PySem (Str sizeLine Value Addr PyData Expr)
open L2 (V HO Hp Key Cx)
section
variable {X : Cx} {c : Cfg} {W : L2.XK}
theorem insOf_ok {w : Wd} (ok : OkW c w) {u : U} {v : V} {k : Nat} {us : List U} (r : RU c w u v) (h : insOf w.s u = some (k, us)) :
    ∃ a dx fs, v = .ref a ∧ w.H a = some (.ins (c.ca k) dx fs) ∧ fs.map (·.1) = (c.fl k).take us.length ∧ RUs c w us (fs.map (·.2)) := by
  cases r with
  | d r =>
    cases r with
    | obj h1 h2 h3 =>
      cases h
      exact ⟨_, _, _, rfl, h1.1, by rw [List.length_map]; exact h2, .of_d h3⟩
    | _ => cases h
  | @r g i a e =>
    rw [insOf] at h
    cases e2 : getL w.s.rs g i with
    | none => rw [e2] at h; cases h
    | some k =>
      rw [e2] at h
      cases k with
      | ins k xs =>
        cases h
        obtain ⟨dx, fs, h1, h2, h3, h4⟩ := ok.cell g i a _ e e2
        exact ⟨_, _, _, rfl, h1, h2, h4⟩
      | _ => cases h
theorem look_fs {α : Type} : ∀ {fs : List (Str × α)} {l : List Str} {n j : Nat} {x : Str} {v : α}, fs.map (·.1) = l.take n → l.Nodup → l[j]? = some x → (fs.map (·.2))[j]? = some v → fs.lookup x = some v := by
  intro fs
  induction fs with
  | nil => intro l n j x v _ _ _ h; simp at h
  | cons p fs ih =>
    intro l n j x v h1 h2 h3 h4
    cases l with
    | nil => simp at h3
    | cons y l =>
      cases n with
      | zero => simp at h1
      | succ n =>
        rw [List.map_cons, List.take_succ_cons] at h1
        injection h1 with e1 e2
        rw [List.nodup_cons] at h2
        cases j with
        | zero =>
          simp at h3 h4
          subst h3
          obtain ⟨a, b⟩ := p
          simp at e1 h4
          subst e1 h4
          rw [List.lookup_cons, BEq.rfl]
        | succ j =>
          rw [List.getElem?_cons_succ] at h3
          rw [List.map_cons, List.getElem?_cons_succ] at h4
          obtain ⟨a, b⟩ := p
          have ne : (x == a) = false := by
            simp at e1
            subst e1
            rw [beq_eq_false_iff_ne]
            rintro rfl
            exact h2.1 (List.mem_of_getElem? h3)
          rw [List.lookup_cons, ne]
          exact ih e2 h2.2 h3 h4
theorem se_fld {k j : Nat} {f : Str} {o : Expr} {pos : PySem.Pos} {g : Env → Stk → RE U} (hK : X.K = c.K) (ho : SE c X W o g) (hb : PySem.attributeBase o f X.env (PySem.eval o X.env) = PySem.eval o X.env)
    (h1 : L2.Cls c.K (c.ca k)) (h2 : L2.NoAttr c.K (c.ca k) f) (h3 : (c.fl k).Nodup) (h4 : (c.fl k)[j]? = some f) :
    SE c X W (.Attribute o f pos) (fun ρ s => (g ρ s).bind fun x s => RE.of (fldU s k j x) s) :=
  pe_weak (L2.pe_fld ho hb) fun σ H Q ⟨w, ρ, e, ok, er, h⟩ => by
    subst e
    exact tG.bind ok er h fun w1 u v ok1 er1 x1 ru h => by
      obtain ⟨z, e, hz⟩ := h.of0
      clear h
      unfold fldU at e
      cases e1 : insOf w1.s u with
      | none => rw [e1] at e; cases e
      | some p =>
        obtain ⟨k', us⟩ := p
        rw [e1] at e
        simp only at e
        split at e
        · rename_i ek
          subst ek
          obtain ⟨a, dx, fs, rfl, q1, q2, q3⟩ := insOf_ok ok1 ru e1
          obtain ⟨v, q4, r⟩ := q3.get e
          exact ⟨a, c.ca k', dx, fs, v, rfl, q1, by rw [hK]; exact h1, by rw [hK]; exact h2, look_fs q2 h3 h4 q4, hz.ret ok1 r⟩
        · cases e
theorem se_isi {t : Ty} {a : Expr} {p p2 pos : PySem.Pos} {f : Env → Stk → RE U} (hK : X.K = c.K) (ha : SE c X W a f) (hn : notStar a = true)
    (hg : L2.Gl X (Str.ofString "isinstance")) (hm : X.mg (Str.ofString "isinstance") = none) (hg2 : L2.Gl X (Str.ofString (tyOf t))) (hm2 : X.mg (Str.ofString (tyOf t)) = none) :
    SE c X W (.Call (.Name (Str.ofString "isinstance") p) [a, .Name (Str.ofString (tyOf t)) p2] [] pos) (fun ρ s => (f ρ s).bind fun x s => (RE.of (isTy s t x) s).bind fun b s => .ok (.d (.bl b)) s) := by
  have hT : L2.PE X (.Name (Str.ofString (tyOf t)) p2) (L2.tC (.ty (tyOf t))) := by
    cases t <;> exact L2.pe_bltn hg2 hm2 (by decide +kernel) rfl (by decide +kernel) (by decide +kernel)
  refine pe_weak (L2.pe_callB L2.call_isi hg hm (by decide +kernel) (L2.pa_cons ha (L2.pa_cons hT L2.pa_nil (star_cons rfl _ _)) (star_cons hn _ _)) (by decide +kernel) (by decide +kernel) (star_cons hn _ _) (star_any rfl)) fun σ H Q ⟨w, ρ, e, ok, er, h⟩ => ?_
  subst e
  exact tG.bind ok er h fun w1 u v ok1 er1 x1 ru h => by
    obtain ⟨b, e, h⟩ := h.of
    obtain ⟨n, h1, h2⟩ := isTy_ok ok1 ru e
    exact ⟨v, .ty (tyOf t), .type n, .type (tyOf t), b, rfl, .ty _, by rw [hK]; exact h1, L2.kit_ty h2, h.ret ok1 (.d (.bl _))⟩
theorem se_new {G : Pg} {k f0 lv : Nat} {a : Addr} {fd : PySem.FuncData} {ps : List Str} {cl : Nat → List U → Stk → RE U} {x : Str} {p pos : PySem.Pos} {es : List Expr} {g : Env → Stk → RE (List U)}
    (hi : G.init k = some f0) (M : L2.Mk X.K (c.ca k) a) (F : L2.FnOk X.prog X.w X.K X.mg X.base (L2.CX X.prog X.w) lv a fd ps (spF c (cl f0))) (hr : L2.Room (lv + 1) X.A) (hg : L2.Gl X x) (hm : X.mg x = some (.ref (c.ca k))) (hb : L2.Binds X.K fd ps []) (tk : Tk X W)
    (ha : SA c X W es g) (h0 : es = [] → g = fun _ s => .ok [] s) (hn : es.all notStar = true) (hdb : (x == Str.ofString "__debug__") = false) :
    SE c X W (.Call (.Name x p) es [] pos) (fun ρ s => (g ρ s).bind fun us s => (RE.of (G.init k) s).bind fun f s => (alloc (.ins k []) s).bind fun x s =>
      (cl f (x :: us) s).bind fun v s => (RE.of (asNon v) s).bind fun _ s => frzU 3 s x) := by
  have key : ∀ σ H Q, tG c W (RU c) (fun ρ s => (g ρ s).bind fun us s => (RE.of (G.init k) s).bind fun f s => (alloc (.ins k []) s).bind fun x s =>
      (cl f (x :: us) s).bind fun v s => (RE.of (asNon v) s).bind fun _ s => frzU 3 s x) σ H Q → L2.tMake (c.ca k) (spF c (cl f0)) [] W (tG c W (RA c es.length) g) σ H Q := fun σ H Q ⟨w, ρ, e, ok, er, h⟩ => by
    subst e
    refine tG.bind ok er h fun w1 us vs ok1 er1 x1 rs h y dx hy hdx hne => ?_
    rw [hi] at h
    replace h : OutE c W w1 (RU c) ((alloc (.ins k []) w1.s).bind fun x s => (cl f0 (x :: us) s).bind fun v s => (RE.of (asNon v) s).bind fun _ s => frzU 3 s x) Q := h
    have ok2 := w1.val_ok (o := .own y) ok1 hdx
    have x2 := w1.val_ext (o := .own y) ok1 hdx
    have hr : w1.s.rs ≠ [] := fun z => by rw [alloc, z] at h; exact h
    obtain ⟨s', e1, e2, ok3, x3, e5, e6⟩ := (w1.val dx (.own y)).new_all (o := .ins (c.ca k) dx []) (k := .ins k []) ok2 (p := y) (by show L2.upd w1.H dx _ y = none; rw [L2.upd_ne (fun q => hne q.symm)]; exact hy) hr (fun w' x e => ⟨dx, [], e, rfl, Nat.zero_le _, .nil⟩) (fun u hu => by cases hu)
    replace e1 : alloc (.ins k []) w1.s = RE.ok (U.r (w1.s.rs.length - 1) (w1.s.rs.headD []).length) s' := e1
    rw [e1] at h
    refine ⟨(w1.val dx (.own y)).new y (.ins (c.ca k) dx []) (.ins k []), _ :: us, e6, ok3, .cons (.r e5) (by rw [List.append_nil]; exact (rs.1.mono x2).mono x3), ?_⟩
    rw [e2]
    refine OutE.bind (OutE.mono (x2.trans x3) h) fun w4 v v' ok4 x4 r h => ?_
    obtain ⟨_, e, hz⟩ := h.of
    clear h
    have ev : v = .d .non := by
      cases v with
      | d d => cases d <;> first | rfl | cases e
      | r => cases e
    subst ev
    have ev : v' = .non := by
      cases r with
      | d r => cases r; rfl
    refine ⟨ev, ?_⟩
    unfold frzU at hz
    cases e3 : frz 3 w4.s (U.r (w1.s.rs.length - 1) (w1.s.rs.headD []).length) with
    | none => rw [e3] at hz; exact hz.elim
    | some q =>
      obtain ⟨z, s4⟩ := q
      rw [e3] at hz
      obtain ⟨o1, o2, o3⟩ := frz_ok 3 w4 _ _ z s4 ok4 ((RU.r e5).mono x4) e3
      exact hz (w4.st s4) _ rfl o1 o2 (.d o3)
  cases es with
  | nil =>
    refine pe_weak (L2.pe_make0 M F hr hg hm hb (dvs := []) .nil (tk_pass tk) hdb) fun σ H Q h => ?_
    have := key σ H Q h
    obtain rfl := h0 rfl
    obtain ⟨w, ρ, e, ok, er, hq⟩ := this
    subst e
    exact OutE.ret ok hq ⟨RUs.nil, rfl⟩
  | cons e es =>
    rw [List.all_cons, Bool.and_eq_true] at hn
    exact pe_weak (L2.pe_make M F hr hg hm hb (dvs := []) .nil (tk_pass tk) ha hdb (star_cons hn.1 _ _) (star_any hn.2)) key
end
end Z
end

section
set_option autoImplicit false
set_option linter.all false
set_option maxRecDepth 100000
namespace Z
open PySem (Str sizeLine Value Addr PyData Expr)
open L2 (V HO Hp Key Cx)
/-! ### a place held back -/
section
variable {c : Cfg}
def Wd.zed (u : Wd) (D : Addr) (o : HO) : Wd := ⟨L2.upd u.H D o, u.ι, u.s, fun a => u.z a ∨ a = D⟩
def Wd.unz (w : Wd) (D : Addr) (z0 : Addr → Prop) : Wd := ⟨fun a => if a = D then none else w.H a, w.ι, w.s, z0⟩
theorem Wd.zed_keeps {u : Wd} {D : Addr} {o : HO} (h : u.H D = none) : Keeps u.H (u.zed D o).H (Live u) (Live (u.zed D o)) := fun a n => by
  have e : ∀ y, u.H a = some y → (u.zed D o).H a = some y ∧ ¬ Live (u.zed D o) a := fun y e => by
    have ne : a ≠ D := fun q => by subst q; rw [h] at e; cases e
    refine ⟨by show L2.upd u.H D o a = _; rw [L2.upd_ne ne]; exact e, fun q => ?_⟩
    rcases q with q | q | q
    · exact n (.inl q)
    · exact n (.inr q)
    · exact ne q
  exact ⟨fun y _ q => q.elim (fun q => ⟨.inl (e _ q).1, (e _ q).2⟩) fun ⟨o', q⟩ => ⟨.inr ⟨o', (e _ q).1⟩, (e _ q).2⟩, fun _ _ _ q => (e _ q).1, fun _ q => (e _ q).1⟩
theorem Wd.zed_ok {u : Wd} {D : Addr} {o : HO} (ok : OkW c u) (h : u.H D = none) : OkW c (u.zed D o) where
  shape := ok.shape
  cell := fun g i a k e1 e2 => by
    by_cases n : k = .gone
    · subst n; trivial
    · obtain ⟨x, e⟩ := (ok.cell g i a k e1 e2).has n
      exact CellR.mono (Wd.zed_keeps h) (fun _ _ _ e => e) (by show L2.upd u.H D o a = _; rw [L2.upd_ne fun q => by subst q; rw [h] at e; cases e]) (ok.cell g i a k e1 e2)
  inj := ok.inj
  low := ok.low
  zs := fun a m => by
    rcases m with m | rfl
    · obtain ⟨⟨x, e⟩, n⟩ := ok.zs a m
      exact ⟨⟨x, by show L2.upd u.H D o a = _; rw [L2.upd_ne fun q => by subst q; rw [h] at e; cases e]; exact e⟩, n⟩
    · exact ⟨⟨o, L2.upd_same⟩, fun q => ok.fresh h (.inl q)⟩
theorem Wd.unz_keeps {w : Wd} {D : Addr} {z0 : Addr → Prop} (hz : w.z = fun a => z0 a ∨ a = D) : Keeps w.H (w.unz D z0).H (Live w) (Live (w.unz D z0)) := fun a n => by
  have ne : a ≠ D := fun q => n (.inr (by rw [hz]; exact .inr q))
  have e : (w.unz D z0).H a = w.H a := by show (if a = D then none else w.H a) = _; rw [if_neg ne]
  have n' : ¬ Live (w.unz D z0) a := fun q => n (q.imp id fun q => by rw [hz]; exact .inl q)
  exact ⟨fun y _ q => q.elim (fun q => ⟨.inl (e.trans q), n'⟩) fun ⟨o', q⟩ => ⟨.inr ⟨o', e.trans q⟩, n'⟩, fun _ _ _ q => e.trans q, fun _ q => e.trans q⟩
theorem Wd.unz_ok {w : Wd} {D : Addr} {z0 : Addr → Prop} (ok : OkW c w) (hz : w.z = fun a => z0 a ∨ a = D) (hD : ¬ z0 D) : OkW c (w.unz D z0) where
  shape := ok.shape
  cell := fun g i a k e1 e2 => by
    by_cases n : k = .gone
    · subst n; trivial
    · have ne : a ≠ D := fun q => (ok.zs D (by rw [hz]; exact .inr rfl)).2 (q ▸ ⟨g, i, k, e1, e2, n⟩)
      exact CellR.mono (Wd.unz_keeps hz) (fun _ _ _ e => e) (by show (if a = D then none else w.H a) = _; rw [if_neg ne]) (ok.cell g i a k e1 e2)
  inj := ok.inj
  low := ok.low
  zs := fun a m => by
    have ne : a ≠ D := fun q => hD (q ▸ m)
    obtain ⟨⟨x, e⟩, n⟩ := ok.zs a (by rw [hz]; exact .inl m)
    exact ⟨⟨x, by show (if a = D then none else w.H a) = _; rw [if_neg ne]; exact e⟩, n⟩
theorem Wd.unz_ext {u w' : Wd} {D : Addr} {o : HO} (h : u.H D = none) (x : Ext (u.zed D o) w') : Ext u (w'.unz D u.z) where
  keep := fun a y e n => by
    have ne : a ≠ D := fun q => by subst q; rw [h] at e; cases e
    have q := x.keep a y (by show L2.upd u.H D o a = _; rw [L2.upd_ne ne]; exact e) (fun q => by
      rcases q with q | q | q
      · exact n (.inl q)
      · exact n (.inr q)
      · exact ne q)
    exact ⟨by show (if a = D then none else w'.H a) = _; rw [if_neg ne]; exact q.1, fun l => q.2 (l.imp id fun l => by rw [x.zz]; exact .inl l)⟩
  io := x.io
  len := x.len
  lk := x.lk
  lkd := x.lkd
  zz := rfl
  zk := fun a m => by
    show (if a = D then none else w'.H a) = _
    split
    · rename_i q; rw [q, h]
    · rename_i ne
      rw [x.zk a (.inl m)]
      show L2.upd u.H D o a = _
      rw [L2.upd_ne ne]
theorem Wd.unz_zed {u w' : Wd} {D : Addr} {o : HO} (x : Ext (u.zed D o) w') : (w'.unz D u.z).zed D o = w' := by
  obtain ⟨H, ι, s, z⟩ := w'
  have e1 : H D = some o := by
    have := x.zk D (.inr rfl)
    rw [show (u.zed D o).H D = some o from L2.upd_same] at this
    exact this
  have e2 : z = fun a => u.z a ∨ a = D := x.zz
  unfold Wd.unz Wd.zed
  congr 1
  · funext a
    by_cases q : a = D
    · subst q; rw [L2.upd_same]; exact e1.symm
    · rw [L2.upd_ne q]
      show (if a = D then none else H a) = H a
      rw [if_neg q]
  · exact e2.symm
theorem OutE.zed {α β γ δ : Type} {W W0 : L2.XK} {u : Wd} {D : Addr} {o : HO} {R : Wd → α → β → Prop} {R' : Wd → γ → δ → Prop} {x : RE α} {f : α → Stk → RE γ} {Q : δ → Hp → Prop} {N : β → Hp → Prop}
    (ok : OkW c u) (h : u.H D = none) (q : OutE c W u R' (x.blk f) Q)
    (n : ∀ (u1 : Wd) (a : α) (v : β), OkW c u1 → Ext u u1 → u1.H D = none → R (u1.zed D o) a v → OutE c W u1 R' (f a u1.s) Q → N v (u1.zed D o).H) : OutE c W0 (u.zed D o) R x N := by
  cases x with
  | ok a s' =>
    intro w' v e ok' x' r
    have hz : w'.z = fun a => u.z a ∨ a = D := x'.zz
    have hD : ¬ u.z D := fun m => by obtain ⟨⟨y, e⟩, _⟩ := ok.zs D m; rw [h] at e; cases e
    have eq := Wd.unz_zed x'
    have := n (w'.unz D u.z) a v (Wd.unz_ok ok' hz hD) (Wd.unz_ext h x') (by show (if D = D then none else w'.H D) = none; rw [if_pos rfl]) (by rw [eq]; exact r) (by
      have q : OutE c W u R' (f a s') Q := q
      rw [← e] at q
      exact q.mono (Wd.unz_ext h x'))
    rw [eq] at this
    exact this
  | ex k vs s' => exact q.elim
  | no => exact q.elim
theorem OutE.blk {α β γ δ : Type} {W W0 : L2.XK} {w : Wd} {R : Wd → α → β → Prop} {R' : Wd → γ → δ → Prop} {x : RE α} {f : α → Stk → RE γ} {Q : δ → Hp → Prop} {N : β → Hp → Prop}
    (q : OutE c W w R' (x.blk f) Q)
    (n : ∀ (u1 : Wd) (a : α) (v : β), OkW c u1 → Ext w u1 → R u1 a v → OutE c W u1 R' (f a u1.s) Q → N v u1.H) : OutE c W0 w R x N := by
  cases x with
  | ok a s' =>
    intro w' v e ok' x' r
    exact n w' a v ok' x' r (by rw [e]; exact OutE.mono x' q)
  | ex k vs s' => exact q.elim
  | no => exact q.elim
/-! ### targets -/
def ImR (c : Cfg) (w : Wd) : Im → V → Prop
  | .one u, v => RU c w u v
  | .many us, v => ∃ a vs, v = .ref a ∧ L2.SqT c.K w.H a vs ∧ RUs c w us vs
mutual
def tgs : Tg → List Nat
  | .name i => [i]
  | .tup ts => tgss ts
def tgss : List Tg → List Nat
  | [] => []
  | t :: ts => tgs t ++ tgss ts
end
theorem wipe_nil (σ : L2.St) : L2.wipe σ [] = σ := rfl
theorem wipe_cons (σ : L2.St) (v : Nat) (vs : List Nat) : L2.wipe σ (v :: vs) = (L2.wipe σ vs).set v none := rfl
theorem wipe_len (σ : L2.St) : ∀ vs : List Nat, (L2.wipe σ vs).length = σ.length
  | [] => rfl
  | v :: vs => by rw [wipe_cons, List.length_set, wipe_len σ vs]
theorem wipe_get (σ : L2.St) (j : Nat) : ∀ vs : List Nat, (L2.wipe σ vs)[j]? = if j ∈ vs then σ[j]?.map (fun _ => none) else σ[j]?
  | [] => by rw [wipe_nil]; simp
  | v :: vs => by
    rw [wipe_cons, List.getElem?_set, wipe_get σ j vs]
    have hl : (L2.wipe σ vs).length = σ.length := wipe_len σ vs
    by_cases e : v = j
    · subst e
      rw [if_pos rfl, if_pos (List.mem_cons_self ..), hl]
      by_cases q : v < σ.length
      · rw [if_pos q, List.getElem?_eq_getElem q]; rfl
      · rw [if_neg q, List.getElem?_eq_none (by omega)]; rfl
    · rw [if_neg e]
      by_cases m : j ∈ vs
      · rw [if_pos m, if_pos (List.mem_cons_of_mem _ m)]
      · rw [if_neg m, if_neg (by intro h; rcases List.mem_cons.mp h with h | h; exact e h.symm; exact m h)]
theorem wipe_set (σ : L2.St) (i : Nat) (x : Option V) (vs : List Nat) (h : i ∈ vs) : L2.wipe (σ.set i x) vs = L2.wipe σ vs := by
  apply List.ext_getElem?
  intro j
  rw [wipe_get, wipe_get, List.getElem?_set]
  by_cases m : j ∈ vs
  · rw [if_pos m, if_pos m]
    by_cases e : i = j
    · subst e
      rw [if_pos rfl]
      by_cases q : i < σ.length
      · rw [if_pos q, List.getElem?_eq_getElem q]; rfl
      · rw [if_neg q, List.getElem?_eq_none (by omega)]
    · rw [if_neg e]
  · rw [if_neg m, if_neg m, if_neg]
    rintro rfl; exact m h
theorem wipe_wipe (σ : L2.St) (vs : List Nat) : L2.wipe (L2.wipe σ vs) vs = L2.wipe σ vs := by
  apply List.ext_getElem?
  intro j
  rw [wipe_get, wipe_get]
  by_cases m : j ∈ vs
  · rw [if_pos m, if_pos m]; cases σ[j]? <;> rfl
  · rw [if_neg m, if_neg m]
def tgT (c : Cfg) (t : Tg) : L2.TG := fun v σ H Q => ∃ (w : Wd) (ρ ρ' : Env) (x : Im), w.H = H ∧ OkW c w ∧ EnvR c w ρ σ ∧ ImR c w x v ∧ bindT t x ρ = some ρ' ∧ ∀ σ', EnvR c w ρ' σ' → (∀ vs, (∀ i ∈ tgs t, i ∈ vs) → L2.wipe σ' vs = L2.wipe σ vs) → Q σ' H
def tgTs (c : Cfg) (ts : List Tg) : L2.TGs := fun vs σ H Q => ∃ (w : Wd) (ρ ρ' : Env) (us : List U), w.H = H ∧ OkW c w ∧ EnvR c w ρ σ ∧ RUs c w us vs ∧ bindTs ts us ρ = some ρ' ∧ ∀ σ', EnvR c w ρ' σ' → (∀ vs, (∀ i ∈ tgss ts, i ∈ vs) → L2.wipe σ' vs = L2.wipe σ vs) → Q σ' H
variable {X : Cx}
theorem pg_weak {e : Expr} {t u : L2.TG} (h : L2.PG X e t) (k : ∀ v σ H Q, u v σ H Q → t v σ H Q) : L2.PG X e u := ⟨fun pins s σ H v w Q I r q => h.run pins s σ H v w Q I r (k _ _ _ _ q)⟩
theorem pgs_weak {e : List Expr} {t u : L2.TGs} (h : L2.PGs X e t) (k : ∀ v σ H Q, u v σ H Q → t v σ H Q) : L2.PGs X e u := ⟨fun pins s σ H v w Q I r q => h.run pins s σ H v w Q I r (k _ _ _ _ q)⟩
theorem sg_name {x : Str} {i : Nat} {pos : PySem.Pos} (hN : X.N.Nodup) (hi : X.N[i]? = some x) (hx : L2.Loc X.env.scope x) (hf : X.fn x = true ∨ List.lookup x X.env.scope.names = some .local) : L2.PG X (.Name x pos) (tgT c (.name i)) :=
  pg_weak (L2.pg_name hN hi hx hf) fun v σ H Q ⟨w, ρ, ρ', x, e, ok, er, ir, hb, k⟩ => by
    cases x with
    | one u =>
      rw [bindT] at hb
      cases hb
      exact k _ (er.set ir i) fun vs h => wipe_set σ i _ vs (h i (by simp [tgs]))
    | many us => rw [bindT] at hb; cases hb
theorem assignEach_len (env : PySem.Env) : ∀ es : List Expr, (PySem.assignEach es env).length = es.length
  | [] => by rw [PySem.assignEach]; rfl
  | e :: es => by
    have := assignEach_len env es
    cases e <;> (rw [PySem.assignEach] <;> first | (simp [this]; done) | (intros; contradiction))
theorem assign_cons {e : Expr} (h : notStar e = true) (es : List Expr) (env : PySem.Env) : PySem.assignEach (e :: es) env = (false, PySem.assign e env) :: PySem.assignEach es env := by
  cases e <;> first | rfl | cases h
theorem assign_any {env : PySem.Env} : ∀ {es : List Expr}, es.all notStar = true → List.findIdx? (fun x : Bool × (Value → PySem.Sem Unit) => x.1) (PySem.assignEach es env) = none
  | [], _ => rfl
  | e :: es, h => by
    rw [List.all_cons, Bool.and_eq_true] at h
    rw [assign_cons h.1, List.findIdx?_cons]
    have := assign_any (env := env) h.2
    simp [this]
theorem sg_nil : L2.PGs X [] (tgTs c []) := pgs_weak L2.pgs_nil fun v σ H Q ⟨w, ρ, ρ', us, e, ok, er, rs, hb, k⟩ => by
  cases us with
  | nil => cases rs; rw [bindTs] at hb; cases hb; exact ⟨rfl, k σ er fun _ _ => rfl⟩
  | cons _ _ => rw [bindTs] at hb; cases hb; all_goals (intros; contradiction)
theorem sg_cons {e : Expr} {es : List Expr} {t : Tg} {ts : List Tg} (h1 : L2.PG X e (tgT c t)) (h2 : L2.PGs X es (tgTs c ts)) (hn : notStar e = true) : L2.PGs X (e :: es) (tgTs c (t :: ts)) :=
  pgs_weak (L2.pgs_cons h1 h2 (by rw [assign_cons hn]; rfl)) fun vs σ H Q ⟨w, ρ, ρ', us, e, ok, er, rs, hb, k⟩ => by
    cases rs with
    | nil => rw [bindTs] at hb; cases hb; all_goals (intros; contradiction)
    | @cons u v us vs r rs =>
      rw [bindTs] at hb
      cases e1 : bindT t (.one u) ρ with
      | none => rw [e1] at hb; cases hb
      | some ρ1 =>
        rw [e1] at hb
        refine ⟨v, vs, rfl, w, ρ, ρ1, .one u, e, ok, er, r, e1, fun σ1 er1 hw1 => ⟨w, ρ1, ρ', us, e, ok, er1, rs, hb, fun σ2 er2 hw2 => k σ2 er2 fun vs h => ?_⟩⟩
        rw [hw2 vs fun i hi => h i (by rw [tgss]; exact List.mem_append_right _ hi), hw1 vs fun i hi => h i (by rw [tgss]; exact List.mem_append_left _ hi)]
theorem bindTs_len : ∀ {ts : List Tg} {us : List U} {ρ ρ' : Env}, bindTs ts us ρ = some ρ' → us.length = ts.length
  | [], [], _, _, _ => rfl
  | [], _ :: _, _, _, h => by rw [bindTs] at h; cases h; all_goals (intros; contradiction)
  | _ :: _, [], _, _, h => by rw [bindTs] at h; cases h; all_goals (intros; contradiction)
  | t :: ts, u :: us, ρ, ρ', h => by
    rw [bindTs] at h
    cases e1 : bindT t (.one u) ρ with
    | none => rw [e1] at h; cases h
    | some ρ1 => rw [e1] at h; rw [List.length_cons, List.length_cons, bindTs_len h]
theorem sg_tup {es : List Expr} {k : Nat} {pos : PySem.Pos} {ts : List Tg} (hK : X.K = c.K) (hc : X.calm = true) (h : L2.PGs X es (tgTs c ts)) (hn : es.all notStar = true) (hl : es.length = ts.length) : L2.PG X (.Tuple es k pos) (tgT c (.tup ts)) :=
  pg_weak (L2.pg_tup hc h (n := ts.length) (by rw [assignEach_len, hl]) (assign_any hn)) fun v σ H Q ⟨w, ρ, ρ', x, e, ok, er, ir, hb, k⟩ => by
    subst e
    cases x with
    | one u =>
      rw [bindT] at hb
      cases e1 : tupOf u with
      | none => rw [e1] at hb; cases hb
      | some us =>
        rw [e1] at hb
        obtain ⟨a, vs, rfl, h1, h2, h3⟩ := tupOf_ok ok ir e1
        exact ⟨a, vs, rfl, by rw [hK]; exact h1, by rw [← h2.length]; exact bindTs_len hb, w, ρ, ρ', us, rfl, ok, er, h2, hb, fun σ' er' hw => k σ' er' fun vs h => hw vs (by rw [tgs] at h; exact h)⟩
    | many us =>
      rw [bindT] at hb
      obtain ⟨a, vs, rfl, h1, h2⟩ := ir
      exact ⟨a, vs, rfl, by rw [hK]; exact h1, by rw [← h2.length]; exact bindTs_len hb, w, ρ, ρ', us, rfl, ok, er, h2, hb, fun σ' er' hw => k σ' er' fun vs h => hw vs (by rw [tgs] at h; exact h)⟩
end
end Z
end

section
set_option autoImplicit false
set_option linter.all false
set_option maxRecDepth 100000
namespace Z
open PySem (Str sizeLine Value Addr PyData Expr)
open L2 (V HO Hp Key Cx)
structure Ex0 (w w' : Wd) : Prop where
  ks : Keeps w.H w'.H (Live w) (Live w')
  io : ∀ g i a, getL w.ι g i = some a → getL w'.ι g i = some a
  lkd : ∀ g i k, (g, i) ∈ w.s.lk → getL w.s.rs g i = some k → getL w'.s.rs g i = some k
  kp : ∀ a x, w.H a = some x → ¬ Live w a → w'.H a = some x ∧ ¬ Live w' a
theorem Keeps.trans {H H1 H2 : Hp} {L L1 L2 : Addr → Prop} (a : Keeps H H1 L L1) (b : Keeps H1 H2 L1 L2) : Keeps H H2 L L2 := fun p n => by
  obtain ⟨a1, a2, a3⟩ := a p n
  refine ⟨fun u nf h => (b p (a1 u nf h).2).1 u nf (a1 u nf h).1, fun C dx fs h => ?_, fun xs h => ?_⟩
  · exact (b p (a1 _ (fun _ _ q => by cases q) (.inl h)).2).2.1 C dx fs (a2 C dx fs h)
  · exact (b p (a1 _ (fun _ _ q => by cases q) (.inl h)).2).2.2 xs (a3 xs h)
theorem Ext.ex0 {w w' : Wd} (x : Ext w w') : Ex0 w w' := ⟨x.keeps, x.io, x.lkd, x.keep⟩
theorem Ex0.trans {w w1 w2 : Wd} (a : Ex0 w w1) (b : Ex0 w1 w2) (e : ∀ p, p ∈ w.s.lk → p ∈ w1.s.lk) : Ex0 w w2 := ⟨a.ks.trans b.ks, fun g i p h => b.io g i p (a.io g i p h), fun g i k h q => b.lkd g i k (e _ h) (a.lkd g i k h q), fun p x h n => b.kp p x (a.kp p x h n).1 (a.kp p x h n).2⟩
theorem Ex0.ext {w w1 w2 : Wd} (a : Ext w w1) (b : Ex0 w1 w2) : Ex0 w w2 := a.ex0.trans b fun p h => by rw [a.lk]; exact h
theorem Ex0.zed {u : Wd} {D : Addr} {o : HO} (h : u.H D = none) : Ex0 u (u.zed D o) := ⟨Wd.zed_keeps h, fun _ _ _ e => e, fun _ _ _ _ e => e, fun a x e n => by
  have ne : a ≠ D := fun q => by subst q; rw [h] at e; cases e
  exact ⟨by show L2.upd u.H D o a = _; rw [L2.upd_ne ne]; exact e, fun q => n (q.imp id fun q => q.elim id fun q => absurd q ne)⟩⟩
section
variable {c : Cfg} {X : Cx} {W : L2.XK}
theorem RU.mono0 {w w' : Wd} (x : Ex0 w w') {u : U} {v : V} (h : RU c w u v) : RU c w' u v := h.mono' x.ks x.io
theorem RUs.mono0 {w w' : Wd} (x : Ex0 w w') {u : List U} {v : List V} (h : RUs c w u v) : RUs c w' u v := h.mono' x.ks x.io
theorem EnvR.mono0 {w w' : Wd} {ρ : Env} {σ : L2.St} (x : Ex0 w w') (h : EnvR c w ρ σ) : EnvR c w' ρ σ :=
  ⟨h.1, fun i u e => let ⟨v, a, b⟩ := h.2 i u e; ⟨v, a, b.mono0 x⟩⟩
theorem EnvR.mono1 {w w' : Wd} {ρ : Env} {σ : L2.St} (k : Keeps w.H w'.H (Live w) (Live w')) (io : ∀ g i a, getL w.ι g i = some a → getL w'.ι g i = some a) (h : EnvR c w ρ σ) : EnvR c w' ρ σ :=
  ⟨h.1, fun i u e => let ⟨v, a, b⟩ := h.2 i u e; ⟨v, a, b.mono' k io⟩⟩
theorem RU.lock {w : Wd} {l : List (Nat × Nat)} {u : U} {v : V} (h : RU c w u v) : RU c (w.lock l) u v := h.mono' (w := w) (w' := w.lock l) (fun a n => ⟨fun u _ h => ⟨h, n⟩, fun _ _ _ h => h, fun _ h => h⟩) fun _ _ _ e => e
theorem EnvR.lock {w : Wd} {l : List (Nat × Nat)} {ρ : Env} {σ : L2.St} (h : EnvR c w ρ σ) : EnvR c (w.lock l) ρ σ := ⟨h.1, fun i u e => let ⟨v, a, b⟩ := h.2 i u e; ⟨v, a, b.lock⟩⟩
theorem lstOf_keep {w w' : Wd} {l : List (Nat × Nat)} {u : U} {us : List U} (hl : ∀ p ∈ lkOf u, p ∈ l) (x : Ex0 (w.lock l) w') (h : lstOf w.s u = some us) : lstOf w'.s u = some us := by
  cases u with
  | d y => cases y <;> exact h
  | r g i =>
    rw [lstOf] at h ⊢
    cases e : getL w.s.rs g i with
    | none => rw [e] at h; cases h
    | some k =>
      rw [e] at h
      rw [x.lkd g i k (List.mem_append_left _ (hl _ (List.mem_cons_self ..))) e]
      exact h
def ItR (c : Cfg) (w : Wd) (p : List Im × List (Nat × Nat)) (J : L2.It) : Prop := p.1.length ≤ sizeLine ∧ ∀ w', OkW c w' → Ex0 (w.lock p.2) w' → ∀ i,
  (∀ x, p.1[i]? = some x → J.go i w'.H ∧ ∀ v H', J.yld i w'.H v H' → ∃ w'', w''.H = H' ∧ w''.s = w'.s ∧ OkW c w'' ∧ Ext w' w'' ∧ ImR c w'' x v) ∧ (p.1[i]? = none → J.stop i w'.H)
def SI (c : Cfg) (X : Cx) (W : L2.XK) (tg it : Expr) (f : Env → Stk → RE (List Im × List (Nat × Nat))) : Prop := L2.PI X tg it (tG c W (ItR c) f)
theorem pi_weak {tg e : Expr} {t u : L2.TI} (h : L2.PI X tg e t) (k : ∀ σ H Q, u σ H Q → t σ H Q) : L2.PI X tg e u := ⟨fun pins s σ H Q I q => h.run pins s σ H Q I (k _ _ _ q)⟩
theorem pi_or2 {tg e : Expr} {t u : L2.TI} (h : L2.PI X tg e t) (k : L2.PI X tg e u) : L2.PI X tg e (fun σ H Q => t σ H Q ∨ u σ H Q) := ⟨fun pins s σ H Q I q => q.elim (h.run pins s σ H Q I) (k.run pins s σ H Q I)⟩
/-- the walk of a list -/
theorem it_list (hK : X.K = c.K) {w : Wd} {u : U} {v : V} {us : List U} (ok : OkW c w) (r : RU c w u v) (h : lstOf w.s u = some us) : ∃ a, v = .ref a ∧ (∃ xs, L2.SqL X.K w.H a xs) ∧ ItR c w (us.map .one, lkOf u) (L2.Itl X.K a) := by
  obtain ⟨a, vs, rfl, h1, h2, h3⟩ := lstOf_ok ok r h
  refine ⟨a, rfl, ⟨vs, by rw [hK]; exact h1⟩, by rw [List.length_map, h2.length]; exact h3, fun w' ok' x i => ?_⟩
  obtain ⟨a', vs', e, g1, g2, g3⟩ := lstOf_ok ok' (r.lock.mono0 x) (lstOf_keep (fun _ h => h) x h)
  cases e
  rw [hK]
  refine ⟨fun y hy => ?_, fun hy => ⟨vs', g1, ?_⟩⟩
  · rw [List.getElem?_map, Option.map_eq_some_iff] at hy
    obtain ⟨z, hz, rfl⟩ := hy
    obtain ⟨v, hv, rv⟩ := g2.get hz
    refine ⟨⟨vs', v, g1, hv⟩, fun v' H' ⟨e1, e2⟩ => ⟨w', e1.symm, rfl, ok', .refl w', ?_⟩⟩
    have := e2 vs' g1
    rw [hv] at this
    cases this
    exact rv
  · rw [List.getElem?_map, Option.map_eq_none_iff, List.getElem?_eq_none_iff] at hy
    rw [← g2.length]; exact hy
theorem it_tup (hK : X.K = c.K) {w : Wd} {u : U} {v : V} {us : List U} (ok : OkW c w) (r : RU c w u v) (h : tupOf u = some us) : ∃ a, v = .ref a ∧ (∃ xs, L2.SqT X.K w.H a xs) ∧ ItR c w (us.map .one, lkOf u) (L2.Itt X.K a) := by
  obtain ⟨a, vs, rfl, h1, h2, h3⟩ := tupOf_ok ok r h
  refine ⟨a, rfl, ⟨vs, by rw [hK]; exact h1⟩, by rw [List.length_map, h2.length]; exact h3, fun w' ok' x i => ?_⟩
  obtain ⟨a', vs', e, g1, g2, g3⟩ := tupOf_ok ok' (r.lock.mono0 x) h
  cases e
  rw [hK]
  refine ⟨fun y hy => ?_, fun hy => ⟨vs', g1, ?_⟩⟩
  · rw [List.getElem?_map, Option.map_eq_some_iff] at hy
    obtain ⟨z, hz, rfl⟩ := hy
    obtain ⟨v, hv, rv⟩ := g2.get hz
    refine ⟨⟨vs', v, g1, hv⟩, fun v' H' ⟨e1, e2⟩ => ⟨w', e1.symm, rfl, ok', .refl w', ?_⟩⟩
    have := e2 vs' g1
    rw [hv] at this
    cases this
    exact rv
  · rw [List.getElem?_map, Option.map_eq_none_iff, List.getElem?_eq_none_iff] at hy
    rw [← g2.length]; exact hy
theorem it_str {w : Wd} {z : S} (hz : z.length ≤ sizeLine) (l : List (Nat × Nat)) : ItR c w ((z.map fun n => U.d (.str [n])).map .one, l) (L2.Its (sOf z)) := by
  refine ⟨by simpa using hz, fun w' ok' x i => ⟨fun y hy => ?_, fun hy => ?_⟩⟩
  · simp only [List.getElem?_map, Option.map_map, Option.map_eq_some_iff] at hy
    obtain ⟨n, hn, rfl⟩ := hy
    have hi := (List.getElem?_eq_some_iff.mp hn).1
    refine ⟨by show i < z.toArray.size; simpa using hi, fun v' H' ⟨e1, m, e2, e3⟩ => ⟨w', e1.symm, rfl, ok', .refl w', ?_⟩⟩
    have e2 : z.toArray[i]? = some m := e2
    rw [List.getElem?_toArray, hn] at e2
    cases e2
    subst e3
    exact .d (.str (x := [n]) (show 1 ≤ sizeLine by decide))
  · simp only [List.getElem?_map, Option.map_map, Option.map_eq_none_iff, List.getElem?_eq_none_iff] at hy
    show z.toArray.size ≤ i
    simpa using hy
theorem si_of (hK : X.K = c.K) {tg e : Expr} {f : Env → Stk → RE U} (he : SE c X W e f) : SI c X W tg e (fun ρ s => (f ρ s).bind fun u s => (RE.of (walkU s u) s).bind fun us s => .ok (us.map .one, lkOf u) s) :=
  pi_weak (pi_or2 (L2.pi_list he) (pi_or2 (L2.pi_tup he) (L2.pi_str he))) fun σ H Q ⟨w, ρ, e, ok, er, h⟩ => by
    subst e
    by_cases hd : ∃ u s1 us, f ρ w.s = .ok u s1 ∧ lstOf s1 u = some us
    · obtain ⟨u, s1, us, e1, e2⟩ := hd
      refine .inl (tG.bindE ok er h fun w1 u1 v1 ok1 er1 x1 ru ee h => ?_)
      rw [e1] at ee
      injection ee with ea eb
      subst ea eb
      obtain ⟨a, rfl, h1, h2⟩ := it_list hK ok1 ru e2
      have e3 : walkU w1.s u = some us := by unfold walkU; rw [e2]
      rw [e3] at h
      exact ⟨a, rfl, h1, h w1 _ rfl ok1 (.refl w1) h2⟩
    · by_cases hd2 : ∃ u s1 us, f ρ w.s = .ok u s1 ∧ tupOf u = some us
      · obtain ⟨u, s1, us, e1, e2⟩ := hd2
        refine .inr (.inl (tG.bindE ok er h fun w1 u1 v1 ok1 er1 x1 ru ee h => ?_))
        have ee' := ee
        rw [e1] at ee
        injection ee with ea eb
        subst ea eb
        obtain ⟨a, rfl, h1, h2⟩ := it_tup hK ok1 ru e2
        have e4 : lstOf w1.s u = none := by
          cases q : lstOf w1.s u with
          | none => rfl
          | some us' => exact absurd ⟨u, _, us', e1, q⟩ hd
        have e3 : walkU w1.s u = some us := by unfold walkU; rw [e4, e2]
        rw [e3] at h
        exact ⟨a, rfl, h1, h w1 _ rfl ok1 (.refl w1) h2⟩
      · refine .inr (.inr (tG.bindE ok er h fun w1 u v1 ok1 er1 x1 ru ee h => ?_))
        obtain ⟨us, e, h⟩ := h.of
        have e4 : lstOf w1.s u = none := by
          cases q : lstOf w1.s u with
          | none => rfl
          | some us' => exact absurd ⟨u, _, us', ee, q⟩ hd
        have e5 : tupOf u = none := by
          cases q : tupOf u with
          | none => rfl
          | some us' => exact absurd ⟨u, _, us', ee, q⟩ hd2
        unfold walkU at e
        rw [e4, e5] at e
        simp only at e
        cases e6 : asStr u with
        | none => rw [e6] at e; cases e
        | some z =>
          rw [e6] at e
          cases e
          obtain ⟨rfl, hz⟩ := asStr_ok ru e6
          exact ⟨sOf z, rfl, h w1 _ rfl ok1 (.refl w1) (it_str hz _)⟩
theorem enum_get : ∀ {us : List U} {n i : Nat}, (enumI n us)[i]? = us[i]?.map fun u => Im.many [.d (.int ((n + i : Nat) : Int)), u]
  | [], n, i => by simp [enumI]
  | u :: us, n, 0 => by simp [enumI]
  | u :: us, n, i + 1 => by
    rw [enumI, List.getElem?_cons_succ, enum_get, List.getElem?_cons_succ]
    rw [show n + 1 + i = n + (i + 1) by omega]
theorem enum_len : ∀ {us : List U} {n : Nat}, (enumI n us).length = us.length
  | [], _ => rfl
  | u :: us, n => by rw [enumI, List.length_cons, List.length_cons, enum_len]
theorem two_val {w' : Wd} (ok' : OkW c w') {T : Addr} (hT : w'.H T = none) {us : List U} {vs : List V} (r : RUs c w' us vs) : OkW c (w'.val T (.tup vs)) ∧ Ext w' (w'.val T (.tup vs)) ∧ ImR c (w'.val T (.tup vs)) (.many us) (.ref T) :=
  ⟨w'.val_ok ok' hT, w'.val_ext ok' hT, T, vs, rfl, .inl (.inl L2.upd_same), r.mono (w'.val_ext ok' hT)⟩
theorem si_enum (hK : X.K = c.K) {e : Expr} {p pos tpos : PySem.Pos} {elts : List Expr} {kk : Nat} {f : Env → Stk → RE U} (hg : L2.Gl X (Str.ofString "enumerate")) (hm : X.mg (Str.ofString "enumerate") = none) (he : SE c X W e f) (hn : notStar e = true) :
    SI c X W (.Tuple elts kk tpos) (.Call (.Name (Str.ofString "enumerate") p) [e] [] pos) (fun ρ s => (f ρ s).bind fun u s => (RE.of (lstOf s u) s).bind fun us s => .ok (enumI 0 us, lkOf u) s) :=
  pi_weak (L2.pi_enum hg hm (L2.pa_cons he L2.pa_nil (star_cons hn _ _)) (star_cons hn _ _)) fun σ H Q ⟨w, ρ, e, ok, er, h⟩ => by
    subst e
    exact tG.bind ok er h fun w1 u v ok1 er1 x1 r h => by
      obtain ⟨us, e, h⟩ := h.of
      obtain ⟨a, vs, rfl, h1, h2, h3⟩ := lstOf_ok ok1 r e
      refine ⟨a, vs, rfl, by rw [hK]; exact h1, h w1 _ rfl ok1 (.refl w1) ⟨by rw [enum_len, h2.length]; exact h3, fun w' ok' x i => ?_⟩⟩
      obtain ⟨a', vs', e', g1, g2, g3⟩ := lstOf_ok ok' (r.lock.mono0 x) (lstOf_keep (fun _ h => h) x e)
      cases e'
      rw [hK]
      refine ⟨fun y hy => ?_, fun hy => ⟨vs', g1, ?_⟩⟩
      · rw [enum_get, Option.map_eq_some_iff] at hy
        obtain ⟨z, hz, rfl⟩ := hy
        obtain ⟨v, hv, rv⟩ := g2.get hz
        refine ⟨⟨vs', v, g1, hv⟩, fun v' H' ⟨T, y, e1, e2, e3, e4⟩ => ?_⟩
        have := e4 vs' g1
        rw [hv] at this
        cases this
        obtain ⟨q1, q2, q3⟩ := two_val ok' e2 (.cons (.d (.int (i : Int))) (.cons rv .nil))
        rw [Nat.zero_add]
        exact ⟨w'.val T _, e3.symm, rfl, q1, q2, e1 ▸ q3⟩
      · rw [enum_get, Option.map_eq_none_iff, List.getElem?_eq_none_iff] at hy
        rw [← g2.length]; exact hy
theorem zip_get : ∀ {us vs : List U} {i : Nat}, (zipI us vs)[i]? = match us[i]?, vs[i]? with | some u, some v => some (Im.many [u, v]) | _, _ => none
  | [], vs, i => by simp [zipI]
  | u :: us, [], i => by cases i <;> simp [zipI] <;> (split <;> first | rfl | simp_all)
  | u :: us, v :: vs, 0 => by simp [zipI]
  | u :: us, v :: vs, i + 1 => by
    rw [zipI, List.getElem?_cons_succ, zip_get, List.getElem?_cons_succ, List.getElem?_cons_succ]
theorem zip_len : ∀ {us vs : List U}, (zipI us vs).length ≤ us.length
  | [], _ => Nat.zero_le _
  | _ :: _, [] => Nat.zero_le _
  | u :: us, v :: vs => by rw [zipI, List.length_cons, List.length_cons]; exact Nat.succ_le_succ zip_len
theorem si_zip (hK : X.K = c.K) {e e2 : Expr} {p pos tpos : PySem.Pos} {elts : List Expr} {kk : Nat} {f g : Env → Stk → RE U} (hg : L2.Gl X (Str.ofString "zip")) (hm : X.mg (Str.ofString "zip") = none) (he : SE c X W e f) (he2 : SE c X W e2 g) (hn : notStar e = true) (hn2 : notStar e2 = true) :
    SI c X W (.Tuple elts kk tpos) (.Call (.Name (Str.ofString "zip") p) [e, e2] [] pos) (fun ρ s => (f ρ s).bind fun u s => (g ρ s).bind fun v s => RE.of (zipU s u v) s) :=
  pi_weak (L2.pi_zip hg hm (L2.pa_cons he (L2.pa_cons he2 L2.pa_nil (star_cons hn2 _ _)) (star_cons hn _ _)) (star_cons hn _ _) (star_any (by simp [hn2]))) fun σ H Q ⟨w, ρ, e, ok, er, h⟩ => by
    subst e
    exact tG.bind ok er h fun w1 u v ok1 er1 x1 r h => tG.bind ok1 er1 h fun w2 u' v' ok2 er2 x2 r' h => by
      obtain ⟨q, e, h⟩ := h.of0
      unfold zipU at e
      have r := r.mono x2
      cases e1 : lstOf w2.s u with
      | none => rw [e1] at e; cases e
      | some us =>
        cases e2 : lstOf w2.s u' with
        | none => rw [e1, e2] at e; cases e
        | some us' =>
          rw [e1, e2] at e
          cases e
          obtain ⟨a, vs, rfl, h1, h2, h3⟩ := lstOf_ok ok2 r e1
          obtain ⟨a', vs', rfl, h1', h2', h3'⟩ := lstOf_ok ok2 r' e2
          refine ⟨a, a', vs, vs', rfl, by rw [hK]; exact h1, by rw [hK]; exact h1', h w2 _ rfl ok2 (.refl w2) ⟨Nat.le_trans zip_len (by rw [h2.length]; exact h3), fun w' ok' x i => ?_⟩⟩
          obtain ⟨b, ws, e', g1, g2, g3⟩ := lstOf_ok ok' (r.lock.mono0 x) (lstOf_keep (fun _ h => List.mem_append_left _ h) x e1)
          cases e'
          obtain ⟨b', ws', e', g1', g2', g3'⟩ := lstOf_ok ok' (r'.lock.mono0 x) (lstOf_keep (fun _ h => List.mem_append_right _ h) x e2)
          cases e'
          rw [hK]
          rw [zip_get]
          cases f1 : us[i]? with
          | none =>
            rw [List.getElem?_eq_none_iff, g2.length] at f1
            exact ⟨fun y hy => (by cases hy), fun _ => ⟨ws, ws', g1, g1', .inl f1⟩⟩
          | some z =>
            cases f2 : us'[i]? with
            | none =>
              rw [List.getElem?_eq_none_iff, g2'.length] at f2
              exact ⟨fun y hy => (by cases hy), fun _ => ⟨ws, ws', g1, g1', .inr f2⟩⟩
            | some z' =>
              obtain ⟨y1, hv, rv⟩ := g2.get f1
              obtain ⟨y2, hv', rv'⟩ := g2'.get f2
              refine ⟨fun y hy => ?_, fun hy => by cases hy⟩
              cases hy
              refine ⟨⟨ws, ws', y1, y2, g1, g1', hv, hv'⟩, fun v' H' ⟨T, t1, t2, e1, e2, e3, e4, e5⟩ => ?_⟩
              have q1 := e4 ws g1
              have q2 := e5 ws' g1'
              rw [hv] at q1
              rw [hv'] at q2
              cases q1
              cases q2
              obtain ⟨q1, q2, q3⟩ := two_val ok' e2 (.cons rv (.cons rv' .nil))
              exact ⟨w'.val T _, e3.symm, rfl, q1, q2, e1 ▸ q3⟩
theorem rng_get : ∀ {n : Nat} {lo : Int} {i : Nat}, (rngI lo n)[i]? = if i < n then some (Im.one (.d (.int (lo + i)))) else none
  | 0, lo, i => by simp [rngI]
  | n + 1, lo, 0 => by simp [rngI]
  | n + 1, lo, i + 1 => by
    rw [rngI, List.getElem?_cons_succ, rng_get]
    by_cases h : i < n
    · rw [if_pos h, if_pos (by omega)]; congr 4; omega
    · rw [if_neg h, if_neg (by omega)]
theorem rng_len : ∀ {n : Nat} {lo : Int}, (rngI lo n).length = n
  | 0, _ => rfl
  | n + 1, _ => by rw [rngI, List.length_cons, rng_len]
theorem it_rng {w : Wd} {n : Nat} {lo : Int} (h : n ≤ sizeLine) : ItR c w (rngI lo n, []) (L2.Itr lo n) := by
  refine ⟨by rw [rng_len]; exact h, fun w' ok' x i => ?_⟩
  rw [rng_get]
  by_cases h : i < n
  · rw [if_pos h]
    refine ⟨fun y hy => ?_, fun hy => by cases hy⟩
    cases hy
    exact ⟨h, fun v' H' ⟨e1, e2⟩ => ⟨w', e1.symm, rfl, ok', .refl w', by rw [e2]; exact .d (.int _)⟩⟩
  · rw [if_neg h]
    exact ⟨fun y hy => (by cases hy), fun _ => Nat.le_of_not_lt h⟩
theorem si_rng1 {tg a : Expr} {p pos : PySem.Pos} {f : Env → Stk → RE U} (hg : L2.Gl X (Str.ofString "range")) (hm : X.mg (Str.ofString "range") = none) (he : SE c X W a f) (hn : notStar a = true) :
    SI c X W tg (.Call (.Name (Str.ofString "range") p) [a] [] pos) (fun ρ s => (f ρ s).bind fun u s => RE.of (rng1 u) s) :=
  pi_weak (L2.pi_range1 hg hm (L2.pa_cons he L2.pa_nil (star_cons hn _ _)) (star_cons hn _ _)) fun σ H Q ⟨w, ρ, e, ok, er, h⟩ => by
    subst e
    exact tG.bind ok er h fun w1 u v ok1 er1 x1 r h => by
      obtain ⟨q, e, h⟩ := h.of0
      unfold rng1 at e
      split at e
      · rename_i n
        split at e
        · rename_i hn
          cases e
          obtain rfl := asInt_ok r rfl
          exact ⟨n, rfl, by omega, by have : (big : Int) < 2 ^ 62 := by decide
                                      omega, h w1 _ rfl ok1 (.refl w1) (it_rng (by rw [← big_line]; omega))⟩
        · cases e
      · cases e
theorem si_rng2 {tg a b : Expr} {p pos : PySem.Pos} {f g : Env → Stk → RE U} (hg : L2.Gl X (Str.ofString "range")) (hm : X.mg (Str.ofString "range") = none) (he : SE c X W a f) (he2 : SE c X W b g) (hn : notStar a = true) (hn2 : notStar b = true) :
    SI c X W tg (.Call (.Name (Str.ofString "range") p) [a, b] [] pos) (fun ρ s => (f ρ s).bind fun u s => (g ρ s).bind fun v s => RE.of (rng2 u v) s) :=
  pi_weak (L2.pi_range2 hg hm (L2.pa_cons he (L2.pa_cons he2 L2.pa_nil (star_cons hn2 _ _)) (star_cons hn _ _)) (by rw [star_cons hn, star_cons hn2]; rfl) (star_cons hn2 _ _)) fun σ H Q ⟨w, ρ, e, ok, er, h⟩ => by
    subst e
    exact tG.bind ok er h fun w1 u v ok1 er1 x1 r h => tG.bind ok1 er1 h fun w2 u' v' ok2 er2 x2 r' h => by
      obtain ⟨q, e, h⟩ := h.of0
      unfold rng2 at e
      split at e
      · rename_i n m
        split at e
        · rename_i hn
          cases e
          obtain rfl := asInt_ok r rfl
          obtain rfl := asInt_ok r' rfl
          refine ⟨_, _, rfl, ?_, h w2 _ rfl ok2 (.refl w2) (it_rng ?_)⟩
          · omega
          · rw [← big_line]; omega
        · cases e
      · cases e
end
end Z
end

section
set_option autoImplicit false
set_option linter.all false
set_option maxRecDepth 100000
namespace Z
open PySem (Str sizeLine Value Addr PyData Expr)
open L2 (V HO Hp Key Cx)
theorem blk_bind {α β γ : Type} (x : RE α) (f : α → Stk → RE β) (g : β → Stk → RE γ) : (x.bind f).blk g = x.blk fun a s => (f a s).blk g := by cases x <;> rfl
theorem blk_assoc {α β γ : Type} (x : RE α) (f : α → Stk → RE β) (g : β → Stk → RE γ) : (x.blk f).blk g = x.blk fun a s => (f a s).blk g := by cases x <;> rfl
abbrev W0 : L2.XK := fun _ _ _ => False
section
variable {c : Cfg} {X : Cx} {W : L2.XK}
theorem OutE.bof {α γ δ : Type} {w : Wd} {R : Wd → γ → δ → Prop} {o : Option α} {s : Stk} {f : α → Stk → RE γ} {Q : δ → Hp → Prop} (h : OutE c W w R ((RE.of o s).blk f) Q) : ∃ a, o = some a ∧ OutE c W w R (f a s) Q := by
  cases o with
  | none => exact h.elim
  | some a => exact ⟨a, rfl, h⟩
theorem OutE.zed2 {α β γ δ : Type} {w1 u : Wd} {D : Addr} {o : HO} {R : Wd → α → β → Prop} {R' : Wd → γ → δ → Prop} {x : RE α} {f : α → Stk → RE γ} {Q : δ → Hp → Prop} {N : β → Hp → Prop}
    (ok : OkW c u) (h : u.H D = none) (q : OutE c W w1 R' (x.blk f) Q)
    (n : ∀ (u1 : Wd) (a : α) (v : β), OkW c u1 → Ext u u1 → u1.H D = none → R (u1.zed D o) a v → OutE c W w1 R' (f a u1.s) Q → N v (u1.zed D o).H) : OutE c W0 (u.zed D o) R x N := by
  cases x with
  | ok a s' =>
    intro w' v e ok' x' r
    have hz : w'.z = fun a => u.z a ∨ a = D := x'.zz
    have hD : ¬ u.z D := fun m => by obtain ⟨⟨y, e⟩, _⟩ := ok.zs D m; rw [h] at e; cases e
    have eq := Wd.unz_zed x'
    have := n (w'.unz D u.z) a v (Wd.unz_ok ok' hz hD) (Wd.unz_ext h x') (by show (if D = D then none else w'.H D) = none; rw [if_pos rfl]) (by rw [eq]; exact r) (by
      have q : OutE c W w1 R' (f a s') Q := q
      rw [← e] at q
      exact q)
    rw [eq] at this
    exact this
  | ex k vs s' => exact q.elim
  | no => exact q.elim
theorem Wd.zed_back {u : Wd} {D : Addr} {o : HO} (h : u.H D = none) : Keeps (u.zed D o).H u.H (Live (u.zed D o)) (Live u) := fun a n => by
  have ne : a ≠ D := fun q => n (.inr (.inr q))
  have e : (u.zed D o).H a = u.H a := by show L2.upd u.H D o a = _; rw [L2.upd_ne ne]
  have n' : ¬ Live u a := fun q => n (q.imp id fun q => .inl q)
  exact ⟨fun y _ q => q.elim (fun q => ⟨.inl (e.symm.trans q), n'⟩) fun ⟨o', q⟩ => ⟨.inr ⟨o', e.symm.trans q⟩, n'⟩, fun _ _ _ q => e.symm.trans q, fun _ q => e.symm.trans q⟩
theorem RU.unz {u : Wd} {D : Addr} {o : HO} {a : U} {v : V} (h : u.H D = none) (r : RU c (u.zed D o) a v) : RU c u a v := r.mono' (Wd.zed_back h) fun _ _ _ e => e
/-- the yield of a walk, beside a place held back -/
theorem yld_zed {u w'' : Wd} {D : Addr} {o : HO} (ok : OkW c u) (h : u.H D = none) (ok' : OkW c w'') (x : Ext (u.zed D o) w'') : ∃ u2, w'' = u2.zed D o ∧ OkW c u2 ∧ Ext u u2 ∧ u2.H D = none ∧ u2.s = w''.s := by
  have hD : ¬ u.z D := fun m => by obtain ⟨⟨y, e⟩, _⟩ := ok.zs D m; rw [h] at e; cases e
  exact ⟨w''.unz D u.z, (Wd.unz_zed x).symm, Wd.unz_ok ok' x.zz hD, Wd.unz_ext h x, by show (if D = D then none else w''.H D) = none; rw [if_pos rfl], rfl⟩
def compF (t : Tg) (own : List Nat) (fC : Env → Stk → RE Bool) (fE : Env → Stk → RE U) (ρ : Env) : Im → Stk → RE (Option U) := fun x s => (RE.of (bindT t x (wipe ρ own)) s).bind fun ρ1 s => (fC ρ1 s).bind fun c s => cond c ((fE ρ1 s).bind fun u s => .ok (some u) s) (.ok none s)
/-- the wish of a comprehension's turns -/
def lcT (g : L2.TG) (tt : L2.TT) (te : L2.TE) (vs : List Nat) (σ : L2.St) (Q : L2.VK) (J : L2.It) (H1 : Hp) : Prop := ∀ D : Addr, H1 D = none → ∃ W : Nat → Nat → Hp → Prop, (∃ m, W 0 m (L2.upd H1 D (.lst []))) ∧ ∀ (i m : Nat) (H : Hp), W i m H →
  (J.stop i H ∧ Q (.ref D) H ∨ J.go i H ∧ ∃ Nx : Hp → Prop, (∀ H', Nx H' → ∃ m', m' < m ∧ W (i + 1) m' H') ∧ ∀ (x : V) (H' : Hp), J.yld i H x H' → g x (L2.wipe σ vs) H' fun σ2 H2 => L2.wipe σ2 vs = L2.wipe σ vs ∧ tt σ2 H2 fun b H3 => if b = true then te σ2 H3 fun y H4 => ∃ acc, H4 D = some (.lst acc) ∧ acc.length < sizeLine ∧ Nx (L2.upd H4 D (.lst (acc ++ [y]))) else Nx H3)
theorem comp_body {c : Cfg} {W : L2.XK} {m : Md} {own : List (Str × Nat)} {t : Tg} {fC : Env → Stk → RE Bool} {fE : Env → Stk → RE U} (hown : ∀ i ∈ tgs t, i ∈ own.map (·.2))
    {w1 : Wd} {ρ : Env} {σ : L2.St} {p : List Im × List (Nat × Nat)} {J : L2.It} {Q : L2.VK} (ok1 : OkW c w1) (er1 : EnvR c w1 ρ σ) (r : ItR c w1 p J)
    (h : OutE c W w1 (RU c) ((compL (compF t (own.map (·.2)) fC fE ρ) p.1 (w1.s.lock p.2)).blk fun us s' => mkL m us (s'.unlock w1.s.lk)) Q) :
    lcT (tgT c t) (tG c W0 RB fC) (tG c W0 (RU c) fE) (own.map (·.2)) σ Q J w1.H := fun D hD => by
  obtain ⟨hl, hw⟩ := r
  have okb := Wd.lock_ok ok1 p.2
  refine ⟨fun i mm H => mm + i = p.1.length ∧ ∃ (u : Wd) (us : List U) (vs : List V), OkW c u ∧ Ext (w1.lock p.2) u ∧ u.H D = none ∧ H = (u.zed D (.lst vs)).H ∧ RUs c u us vs ∧ vs.length ≤ i ∧
    OutE c W w1 (RU c) ((compL (compF t (own.map (·.2)) fC fE ρ) (p.1.drop i) u.s).blk fun us' s => mkL m (us ++ us') (s.unlock w1.s.lk)) Q, ⟨p.1.length, rfl, w1.lock p.2, [], [], okb, .refl _, hD, rfl, .nil, Nat.le_refl _, h⟩, fun i mm H ⟨hm, u, us, vs, oku, xu, hu, eH, rs, hvs, hq⟩ => ?_⟩
  subst eH
  have okz := Wd.zed_ok (o := .lst vs) oku hu
  have exz : Ex0 (w1.lock p.2) (u.zed D (.lst vs)) := Ex0.ext xu (.zed hu)
  obtain ⟨hgo, hst⟩ := hw _ okz exz i
  cases e : p.1[i]? with
  | none =>
    refine .inl ⟨hst e, ?_⟩
    rw [List.getElem?_eq_none_iff] at e
    rw [List.drop_eq_nil_of_le e] at hq
    replace hq : OutE c W w1 (RU c) (mkL m (us ++ []) (u.s.unlock w1.s.lk)) Q := hq
    rw [List.append_nil] at hq
    have xf := Wd.unlock_ext xu
    have okf : OkW c (u.st (u.s.unlock w1.s.lk)) := Wd.st_ok oku _
    exact mkL_out okf (rs.mono' (w := u) (w' := u.st (u.s.unlock w1.s.lk)) (fun a n => ⟨fun u _ h => ⟨h, n⟩, fun _ _ _ h => h, fun _ h => h⟩) fun _ _ _ e => e) (by omega) (hq.mono xf) D hu
  | some x =>
    obtain ⟨go, yl⟩ := hgo x e
    have hi' := (List.getElem?_eq_some_iff.mp e).1
    refine .inr ⟨go, fun H' => ∃ (u' : Wd) (us' : List U) (vs' : List V), OkW c u' ∧ Ext (w1.lock p.2) u' ∧ u'.H D = none ∧ H' = (u'.zed D (.lst vs')).H ∧ RUs c u' us' vs' ∧ vs'.length ≤ i + 1 ∧
      OutE c W w1 (RU c) ((compL (compF t (own.map (·.2)) fC fE ρ) (p.1.drop (i + 1)) u'.s).blk fun us'' s => mkL m (us' ++ us'') (s.unlock w1.s.lk)) Q, fun H' q => ⟨mm - 1, by omega, by omega, q⟩, fun v H' y => ?_⟩
    obtain ⟨w'', eH, es, ok'', x'', ir⟩ := yl v H' y
    obtain ⟨u2, rfl, ok2, x2, h2, es2⟩ := yld_zed oku hu ok'' x''
    subst eH
    have ed : p.1.drop i = x :: p.1.drop (i + 1) := by
      rw [List.drop_eq_getElem_cons hi']
      congr 1
      rw [List.getElem?_eq_getElem hi'] at e
      exact Option.some.inj e
    rw [ed, compL, compF] at hq
    simp only [blk_assoc, blk_bind] at hq
    obtain ⟨ρ', eb, hq⟩ := hq.bof
    refine ⟨_, wipe ρ (own.map (·.2)), ρ', x, rfl, ok'', (er1.lock.mono0 (exz.trans x''.ex0 fun q hq => by
      show q ∈ u.s.lk
      rw [xu.lk]; exact hq)).wipe _, ir, eb, fun σ' er' hw' => ⟨?_, ?_⟩⟩
    · rw [hw' _ hown, wipe_wipe]
    · rw [show u.s = u2.s from es.symm.trans es2.symm] at hq
      refine ⟨_, ρ', rfl, ok'', er', OutE.zed2 ok2 h2 hq fun u3 b b' ok3 x3 h3 rb hq => ?_⟩
      cases rb
      have okz3 := Wd.zed_ok (o := .lst vs) ok3 h3
      have e3 : EnvR c (u3.zed D (.lst vs)) ρ' σ' := by
        refine EnvR.mono1 (w := u2.zed D (.lst vs)) ((Wd.zed_back h2).trans (x3.keeps.trans (Wd.zed_keeps h3))) x3.io er'
      cases b with
      | false =>
        rw [if_neg (by decide)]
        exact ⟨u3, us, vs, ok3, (xu.trans x2).trans x3, h3, rfl, (rs.mono x2).mono x3, by omega, hq⟩
      | true =>
        rw [if_pos rfl]
        simp only [cond_true, blk_bind] at hq
        refine ⟨_, ρ', rfl, okz3, e3, OutE.zed2 ok3 h3 hq fun u4 y yv ok4 x4 h4 ry hq => ?_⟩
        refine ⟨vs, L2.upd_same, by omega, u4, us ++ [y], vs ++ [yv], ok4, ((xu.trans x2).trans x3).trans x4, h4, ?_, (((rs.mono x2).mono x3).mono x4).append (.cons (ry.unz h4) .nil), by simpa using hvs, ?_⟩
        · show L2.upd (L2.upd u4.H D _) D _ = L2.upd u4.H D _
          exact L2.upd_upd
        · replace hq : OutE c W w1 (RU c) ((compL (compF t (own.map (·.2)) fC fE ρ) (p.1.drop (i + 1)) u4.s).blk fun us'' s => mkL m (us ++ (y :: us'')) (s.unlock w1.s.lk)) Q := hq
          have e : (fun (us'' : List U) (s : Stk) => mkL m (us ++ (y :: us'')) (s.unlock w1.s.lk)) = fun us'' s => mkL m ((us ++ [y]) ++ us'') (s.unlock w1.s.lk) := by
            funext us'' s
            rw [List.append_assoc]; rfl
          rw [e] at hq
          exact hq
theorem comp_law {c : Cfg} {W : L2.XK} {m : Md} {own : List (Str × Nat)} {t : Tg} {fI : Env → Stk → RE (List Im × List (Nat × Nat))} {fC : Env → Stk → RE Bool} {fE : Env → Stk → RE U} (hown : ∀ i ∈ tgs t, i ∈ own.map (·.2)) :
    ∀ σ H Q, tG c W (RU c) (fun ρ s => (fI ρ s).bind fun p s => (compL (compF t (own.map (·.2)) fC fE ρ) p.1 (s.lock p.2)).blk fun us s' => mkL m us (s'.unlock s.lk)) σ H Q → L2.tLc (tG c W (ItR c) fI) (tgT c t) (tG c W0 RB fC) (tG c W0 (RU c) fE) (own.map (·.2)) σ H Q := fun σ H Q ⟨w, ρ, e, ok, er, h⟩ => by
  subst e
  exact tG.bind ok er h fun w1 p J ok1 er1 x1 r h => comp_body hown ok1 er1 r h
end
end Z
end

section
set_option autoImplicit false
set_option linter.all false
set_option maxRecDepth 100000
namespace Z
open PySem (Str sizeLine Value Addr PyData Expr)
open L2 (V HO Hp Key Cx)
theorem pk_ne {p : Key × V} {r : List (Key × V)} {k : Key} {v : V} (h : p.1 ≠ k) : L2.putK (p :: r) k v = p :: L2.putK r k v := by
  unfold L2.putK
  rw [List.any_cons, decide_eq_false h, Bool.false_or]
  split
  · rw [List.map_cons, if_neg h]
  · rfl
theorem pk_eq {p : Key × V} {r : List (Key × V)} {k : Key} {v : V} (h : p.1 = k) (hr : ∀ q ∈ r, q.1 ≠ k) : L2.putK (p :: r) k v = (p.1, v) :: r := by
  unfold L2.putK
  rw [List.any_cons, decide_eq_true h, Bool.true_or, if_pos rfl, List.map_cons, if_pos h]
  congr 1
  conv => rhs; rw [← List.map_id r]
  exact List.map_congr_left fun q hq => by rw [if_neg (hr q hq)]; rfl
section
variable {c : Cfg} {X : Cx} {W : L2.XK}
theorem putK_mem : ∀ {ks : List Ky} {us : List U} {k : Ky} {u : U}, ks.length = us.length → ∀ x, x ∈ (putK ks us k u).1 ↔ x ∈ ks ∨ x = k
  | [], [], k, u, _, x => by simp [putK]
  | k0 :: ks, u0 :: us, k, u, h, x => by
    rw [putK]
    split
    · rename_i e; subst e
      simp only [List.mem_cons]
      exact ⟨fun h => .inl h, fun h => h.elim id .inl⟩
    · simp only [List.mem_cons, putK_mem (by simpa using h) x]
      exact ⟨fun h => h.elim (fun h => .inl (.inl h)) (fun h => h.elim (fun h => .inl (.inr h)) .inr), fun h => h.elim (fun h => h.elim .inl (fun h => .inr (.inl h))) (fun h => .inr (.inr h))⟩
theorem putK_rel {w : Wd} {k : Ky} {u : U} {v : V} (r : RU c w u v) : ∀ {kvs : List (Key × V)} {ks : List Ky} {us : List U}, kvs.map (·.1) = ks.map kOf → ks.Nodup → RUs c w us (kvs.map (·.2)) →
    (L2.putK kvs (kOf k) v).map (·.1) = (putK ks us k u).1.map kOf ∧ (putK ks us k u).1.Nodup ∧ RUs c w (putK ks us k u).2 ((L2.putK kvs (kOf k) v).map (·.2)) ∧ (L2.putK kvs (kOf k) v).length ≤ kvs.length + 1
  | [], [], us, _, _, rs => by
    cases rs
    exact ⟨rfl, by simp [putK], .cons r .nil, Nat.le_refl _⟩
  | [], _ :: _, _, h, _, _ => by simp at h
  | _ :: _, [], _, h, _, _ => by simp at h
  | p :: kvs, k0 :: ks, us, h, nd, rs => by
    cases rs with
    | @cons u0 _ us _ r0 rs =>
      rw [List.map_cons, List.map_cons] at h
      injection h with h1 h2
      rw [List.nodup_cons] at nd
      rw [putK]
      split
      · rename_i e
        subst e
        have hr : ∀ q ∈ kvs, q.1 ≠ kOf k := fun q hq e => by
          have : kOf k ∈ ks.map kOf := by rw [← h2, ← e]; exact List.mem_map_of_mem hq
          obtain ⟨k', m, e'⟩ := List.mem_map.mp this
          exact nd.1 (kOf_inj e' ▸ m)
        rw [pk_eq h1 hr]
        refine ⟨?_, by rw [List.nodup_cons]; exact nd, .cons r rs, by simp⟩
        rw [List.map_cons, List.map_cons, h2]
        show p.1 :: _ = _
        rw [h1]
      · rename_i ne
        have hne : p.1 ≠ kOf k := by rw [h1]; exact fun e => ne (kOf_inj e).symm
        obtain ⟨a1, a2, a3, a4⟩ := putK_rel r h2 nd.2 rs
        rw [pk_ne hne]
        have hl : ks.length = us.length := by
          have := congrArg List.length h2
          rw [List.length_map, List.length_map] at this
          have q := rs.length
          rw [List.length_map] at q
          omega
        refine ⟨by rw [List.map_cons, List.map_cons, a1, h1], ?_, .cons r0 a3, by simp; omega⟩
        rw [List.nodup_cons]
        refine ⟨fun m => ?_, a2⟩
        rcases (putK_mem hl _).mp m with m | m
        · exact nd.1 m
        · exact ne m.symm
theorem mkK_out {w : Wd} (ok : OkW c w) {m : Md} {ks : List Ky} {us : List U} {kvs : List (Key × V)} {Q : V → Hp → Prop} (rv : RUs c w us (kvs.map (·.2))) (hz : kvs.length ≤ sizeLine) (he : kvs.map (·.1) = ks.map kOf) (nd : ks.Nodup) (h : OutE c W w (RU c) (mkK m ks us w.s) Q) : ∀ p, w.H p = none → Q (.ref p) (L2.upd w.H p (.dK kvs)) := by
  intro p hp
  cases m with
  | val =>
    rw [mkK] at h
    cases e : pus us with
    | none => rw [e] at h; exact h.elim
    | some xs =>
      rw [e] at h
      have x := w.val_ext (o := .dK kvs) ok hp
      exact h.val ok hp (.d (.dct ⟨.inl L2.upd_same, (w.val_free ok hp).2⟩ hz he nd ((rv.pus e).mono x.keeps)))
  | cell =>
    rw [mkK] at h
    have hr : w.s.rs ≠ [] := fun z => by rw [alloc, z] at h; exact h
    obtain ⟨s', e1, e2, e3, e4, e5, e6⟩ := w.new_all (o := .dK kvs) (k := .dct ks us) ok hp hr (fun w' x e => ⟨kvs, e, hz, he, nd, rv.mono x⟩) (fun u hu => by
      exact rv.mem u hu)
    rw [e1] at h
    rw [← e6]
    exact h _ _ e2 e3 e4 (.r e5)
def dcompF (t : Tg) (own : List Nat) (fC : Env → Stk → RE Bool) (fK fE : Env → Stk → RE U) (ρ : Env) : Im → Stk → RE (Option (Ky × U)) := fun x s => (RE.of (bindT t x (wipe ρ own)) s).bind fun ρ1 s => (fC ρ1 s).bind fun c s => cond c ((fK ρ1 s).bind fun u s => (RE.of (kyOf u) s).bind fun y s => (fE ρ1 s).bind fun z s => .ok (some (y, z)) s) (.ok none s)
def dcT (g : L2.TG) (tt : L2.TT) (tk tv : L2.TE) (vs : List Nat) (σ : L2.St) (Q : L2.VK) (J : L2.It) (H1 : Hp) : Prop := ∀ D : Addr, H1 D = none → ∃ W : Nat → Nat → Hp → Prop, (∃ m, W 0 m (L2.upd H1 D (.dK []))) ∧ ∀ (i m : Nat) (H : Hp), W i m H →
  (J.stop i H ∧ Q (.ref D) H ∨ J.go i H ∧ ∃ Nx : Hp → Prop, (∀ H', Nx H' → ∃ m', m' < m ∧ W (i + 1) m' H') ∧ ∀ (x : V) (H' : Hp), J.yld i H x H' → g x (L2.wipe σ vs) H' fun σ2 H2 => L2.wipe σ2 vs = L2.wipe σ vs ∧ tt σ2 H2 fun b H3 => if b = true then tk σ2 H3 fun y H4 => tv σ2 H4 fun z H5 => ∃ kvs k, y = L2.kV k ∧ H5 D = some (.dK kvs) ∧ kvs.length < sizeLine ∧ Nx (L2.upd H5 D (.dK (L2.putK kvs k z))) else Nx H3)
theorem dcomp_body {m : Md} {own : List (Str × Nat)} {t : Tg} {fC : Env → Stk → RE Bool} {fK fE : Env → Stk → RE U} (hown : ∀ i ∈ tgs t, i ∈ own.map (·.2))
    {w1 : Wd} {ρ : Env} {σ : L2.St} {p : List Im × List (Nat × Nat)} {J : L2.It} {Q : L2.VK} (ok1 : OkW c w1) (er1 : EnvR c w1 ρ σ) (r : ItR c w1 p J)
    (h : OutE c W w1 (RU c) ((compK (dcompF t (own.map (·.2)) fC fK fE ρ) p.1 ([], []) (w1.s.lock p.2)).blk fun q s' => mkK m q.1 q.2 (s'.unlock w1.s.lk)) Q) :
    dcT (tgT c t) (tG c W0 RB fC) (tG c W0 (RU c) fK) (tG c W0 (RU c) fE) (own.map (·.2)) σ Q J w1.H := fun D hD => by
  obtain ⟨hl, hw⟩ := r
  have okb := Wd.lock_ok ok1 p.2
  refine ⟨fun i mm H => mm + i = p.1.length ∧ ∃ (u : Wd) (ks : List Ky) (us : List U) (vs : List (Key × V)), OkW c u ∧ Ext (w1.lock p.2) u ∧ u.H D = none ∧ H = (u.zed D (.dK vs)).H ∧ RUs c u us (vs.map (·.2)) ∧ vs.map (·.1) = ks.map kOf ∧ ks.Nodup ∧ vs.length ≤ i ∧
    OutE c W w1 (RU c) ((compK (dcompF t (own.map (·.2)) fC fK fE ρ) (p.1.drop i) (ks, us) u.s).blk fun q s => mkK m q.1 q.2 (s.unlock w1.s.lk)) Q, ⟨p.1.length, rfl, w1.lock p.2, [], [], [], okb, .refl _, hD, rfl, .nil, rfl, List.nodup_nil, Nat.le_refl _, h⟩, fun i mm H ⟨hm, u, ks, us, vs, oku, xu, hu, eH, rs, hk, nd, hvs, hq⟩ => ?_⟩
  subst eH
  have okz := Wd.zed_ok (o := .dK vs) oku hu
  have exz : Ex0 (w1.lock p.2) (u.zed D (.dK vs)) := Ex0.ext xu (.zed hu)
  obtain ⟨hgo, hst⟩ := hw _ okz exz i
  cases e : p.1[i]? with
  | none =>
    refine .inl ⟨hst e, ?_⟩
    rw [List.getElem?_eq_none_iff] at e
    rw [List.drop_eq_nil_of_le e] at hq
    replace hq : OutE c W w1 (RU c) (mkK m ks us (u.s.unlock w1.s.lk)) Q := hq
    have xf := Wd.unlock_ext xu
    have okf : OkW c (u.st (u.s.unlock w1.s.lk)) := Wd.st_ok oku _
    exact mkK_out okf (rs.mono' (w := u) (w' := u.st (u.s.unlock w1.s.lk)) (fun a n => ⟨fun u _ h => ⟨h, n⟩, fun _ _ _ h => h, fun _ h => h⟩) fun _ _ _ e => e) (by omega) hk nd (hq.mono xf) D hu
  | some x =>
    obtain ⟨go, yl⟩ := hgo x e
    have hi' := (List.getElem?_eq_some_iff.mp e).1
    refine .inr ⟨go, fun H' => ∃ (u' : Wd) (ks' : List Ky) (us' : List U) (vs' : List (Key × V)), OkW c u' ∧ Ext (w1.lock p.2) u' ∧ u'.H D = none ∧ H' = (u'.zed D (.dK vs')).H ∧ RUs c u' us' (vs'.map (·.2)) ∧ vs'.map (·.1) = ks'.map kOf ∧ ks'.Nodup ∧ vs'.length ≤ i + 1 ∧
      OutE c W w1 (RU c) ((compK (dcompF t (own.map (·.2)) fC fK fE ρ) (p.1.drop (i + 1)) (ks', us') u'.s).blk fun q s => mkK m q.1 q.2 (s.unlock w1.s.lk)) Q, fun H' q => ⟨mm - 1, by omega, by omega, q⟩, fun v H' y => ?_⟩
    obtain ⟨w'', eH, es, ok'', x'', ir⟩ := yl v H' y
    obtain ⟨u2, rfl, ok2, x2, h2, es2⟩ := yld_zed oku hu ok'' x''
    subst eH
    have ed : p.1.drop i = x :: p.1.drop (i + 1) := by
      rw [List.drop_eq_getElem_cons hi']
      congr 1
      rw [List.getElem?_eq_getElem hi'] at e
      exact Option.some.inj e
    rw [ed, compK, dcompF] at hq
    simp only [blk_assoc, blk_bind] at hq
    obtain ⟨ρ', eb, hq⟩ := hq.bof
    refine ⟨_, wipe ρ (own.map (·.2)), ρ', x, rfl, ok'', (er1.lock.mono0 (exz.trans x''.ex0 fun q hq => by
      show q ∈ u.s.lk
      rw [xu.lk]; exact hq)).wipe _, ir, eb, fun σ' er' hw' => ⟨?_, ?_⟩⟩
    · rw [hw' _ hown, wipe_wipe]
    · rw [show u.s = u2.s from es.symm.trans es2.symm] at hq
      refine ⟨_, ρ', rfl, ok'', er', OutE.zed2 ok2 h2 hq fun u3 b b' ok3 x3 h3 rb hq => ?_⟩
      cases rb
      have okz3 := Wd.zed_ok (o := .dK vs) ok3 h3
      have e3 : EnvR c (u3.zed D (.dK vs)) ρ' σ' := by
        refine EnvR.mono1 (w := u2.zed D (.dK vs)) ((Wd.zed_back h2).trans (x3.keeps.trans (Wd.zed_keeps h3))) x3.io er'
      cases b with
      | false =>
        rw [if_neg (by decide)]
        exact ⟨u3, ks, us, vs, ok3, (xu.trans x2).trans x3, h3, rfl, (rs.mono x2).mono x3, hk, nd, by omega, hq⟩
      | true =>
        rw [if_pos rfl]
        simp only [cond_true, blk_bind] at hq
        refine ⟨_, ρ', rfl, okz3, e3, OutE.zed2 ok3 h3 hq fun u4 y yv ok4 x4 h4 ry hq => ?_⟩
        obtain ⟨k, ek, hq⟩ := hq.bof
        have okz4 := Wd.zed_ok (o := .dK vs) ok4 h4
        have e4 : EnvR c (u4.zed D (.dK vs)) ρ' σ' := by
          refine EnvR.mono1 (w := u3.zed D (.dK vs)) ((Wd.zed_back h3).trans (x4.keeps.trans (Wd.zed_keeps h4))) x4.io e3
        refine ⟨_, ρ', rfl, okz4, e4, OutE.zed2 ok4 h4 hq fun u5 z zv ok5 x5 h5 rz hq => ?_⟩
        obtain rfl := kyOf_ok ry ek
        obtain ⟨g1, g2, g3, g4⟩ := putK_rel (k := k) (rz.unz h5) hk nd ((((rs.mono x2).mono x3).mono x4).mono x5)
        refine ⟨vs, kOf k, rfl, L2.upd_same, by omega, u5, _, _, L2.putK vs (kOf k) zv, ok5, (((xu.trans x2).trans x3).trans x4).trans x5, h5, ?_, g3, g1, g2, by omega, hq⟩
        show L2.upd (L2.upd u5.H D _) D _ = L2.upd u5.H D _
        exact L2.upd_upd
theorem dcomp_law {m : Md} {own : List (Str × Nat)} {t : Tg} {fI : Env → Stk → RE (List Im × List (Nat × Nat))} {fC : Env → Stk → RE Bool} {fK fE : Env → Stk → RE U} (hown : ∀ i ∈ tgs t, i ∈ own.map (·.2)) :
    ∀ σ H Q, tG c W (RU c) (fun ρ s => (fI ρ s).bind fun p s => (compK (dcompF t (own.map (·.2)) fC fK fE ρ) p.1 ([], []) (s.lock p.2)).blk fun q s' => mkK m q.1 q.2 (s'.unlock s.lk)) σ H Q → L2.tDc (tG c W (ItR c) fI) (tgT c t) (tG c W0 RB fC) (tG c W0 (RU c) fK) (tG c W0 (RU c) fE) (own.map (·.2)) σ H Q := fun σ H Q ⟨w, ρ, e, ok, er, h⟩ => by
  subst e
  exact tG.bind ok er h fun w1 p J ok1 er1 x1 r h => dcomp_body hown ok1 er1 r h
end
end Z
end

section
set_option autoImplicit false
set_option linter.all false
set_option maxRecDepth 100000
namespace Z
open PySem (Str sizeLine Value Addr PyData Expr)
open L2 (V HO Hp Key Cx)
structure SP (c : Cfg) (X : Cx) (e : Expr) (f : Env → Stk → RE U) (pv : L2.St → Hp → Option V) : Prop where
  pe : L2.PE X e (fun σ H Q => ∃ v, pv σ H = some v ∧ Q v H)
  ok : ∀ w ρ σ u s, OkW c w → EnvR c w ρ σ → f ρ w.s = .ok u s → s = w.s ∧ ∃ v, pv σ w.H = some v ∧ RU c w u v
  ne : ∀ ρ s k vs s', f ρ s ≠ .ex k vs s'
  st : ∀ σ H d od kvs v, H d = some (.dK kvs) → pv σ H = some v → pv σ (L2.upd H d (.frz od (.dK kvs))) = some v
section
variable {c : Cfg} {X : Cx} {W : L2.XK}
theorem sp_var {x : Str} {i : Nat} {pos : PySem.Pos} (hN : X.N[i]? = some x) (hv : L2.Vis X.env.scope x) (hd : (x == Str.ofString "__debug__") = false) (hcd : (x == Str.ofString "__classdict__") = false) :
    SP c X (.Name x pos) (fun ρ s => RE.of (getV ρ i) s) (fun σ _ => σ[i]?.join) where
  pe := pe_weak (L2.pe_var hN hv hd hcd) fun σ H Q ⟨v, e, q⟩ => by
    cases e2 : σ[i]? with
    | none => rw [e2] at e; cases e
    | some o =>
      rw [e2] at e
      have : o = some v := e
      subst this
      exact ⟨v, e2, q⟩
  ok := fun w ρ σ u s ok er h => by
    cases e : getV ρ i with
    | none => rw [e] at h; cases h
    | some u' =>
      rw [e] at h
      cases h
      refine ⟨rfl, ?_⟩
      have : ρ[i]? = some (some u) := by
        unfold getV at e
        split at e
        · rename_i e2; cases e; exact e2
        · cases e
      obtain ⟨v, e2, r⟩ := er.2 i u this
      exact ⟨v, by rw [e2]; rfl, r⟩
  ne := fun ρ s k vs s' h => by cases e : getV ρ i <;> (rw [e] at h; cases h)
  st := fun _ _ _ _ _ _ _ h => h
theorem sp_fld {k j : Nat} {f : Str} {o : Expr} {pos : PySem.Pos} {g : Env → Stk → RE U} {pv : L2.St → Hp → Option V} (hK : X.K = c.K) (ho : SP c X o g pv) (hb : PySem.attributeBase o f X.env (PySem.eval o X.env) = PySem.eval o X.env)
    (h1 : L2.Cls c.K (c.ca k)) (h2 : L2.NoAttr c.K (c.ca k) f) (h3 : (c.fl k).Nodup) (h4 : (c.fl k)[j]? = some f) :
    SP c X (.Attribute o f pos) (fun ρ s => (g ρ s).bind fun x s => RE.of (fldU s k j x) s) (fun σ H => match pv σ H with | some (.ref a) => (match H a with | some (.ins C dx fs) => if C = c.ca k then fs.lookup f else none | _ => none) | _ => none) where
  pe := pe_weak (L2.pe_fld ho.pe hb) fun σ H Q ⟨v, e, q⟩ => by
    cases e1 : pv σ H with
    | none => rw [e1] at e; cases e
    | some x =>
      rw [e1] at e
      refine ⟨x, e1, ?_⟩
      cases x with
      | ref a =>
        simp only at e
        cases e2 : H a with
        | none => rw [e2] at e; cases e
        | some y =>
          rw [e2] at e
          cases y with
          | ins C dx fs =>
            simp only at e
            split at e
            · rename_i eC
              subst eC
              exact ⟨a, c.ca k, dx, fs, v, rfl, e2, by rw [hK]; exact h1, by rw [hK]; exact h2, e, q⟩
            · cases e
          | _ => cases e
      | _ => cases e
  ok := fun w ρ σ u s ok er h => by
    cases e1 : g ρ w.s with
    | ok x s1 =>
      obtain ⟨rfl, v, e2, r⟩ := ho.ok w ρ σ x s1 ok er e1
      rw [e1] at h
      replace h : RE.of (fldU w.s k j x) w.s = RE.ok u s := h
      cases e3 : fldU w.s k j x with
      | none => rw [e3] at h; cases h
      | some y =>
        rw [e3] at h
        cases h
        refine ⟨rfl, ?_⟩
        unfold fldU at e3
        cases e4 : insOf w.s x with
        | none => rw [e4] at e3; cases e3
        | some p =>
          obtain ⟨k', us⟩ := p
          rw [e4] at e3
          simp only at e3
          split at e3
          · rename_i ek
            subst ek
            obtain ⟨a, dx, fs, rfl, q1, q2, q3⟩ := insOf_ok ok r e4
            obtain ⟨v, q4, r⟩ := q3.get e3
            exact ⟨v, by rw [e2]; simp only [q1, if_pos]; exact look_fs q2 h3 h4 q4, r⟩
          · cases e3
    | ex k vs s1 => exact absurd e1 (ho.ne _ _ _ _ _)
    | no => rw [e1] at h; cases h
  ne := fun ρ s k vs s' h => by
    cases e1 : g ρ s with
    | ok x s1 =>
      rw [e1] at h
      replace h : RE.of (fldU s1 _ j x) s1 = _ := h
      cases e3 : fldU s1 _ j x <;> (rw [e3] at h; cases h)
    | ex k vs s1 => exact ho.ne _ _ _ _ _ e1
    | no => rw [e1] at h; cases h
  st := fun σ H d od kvs v hd h => by
    cases e1 : pv σ H with
    | none => rw [e1] at h; cases h
    | some x =>
      rw [ho.st σ H d od kvs x hd e1]
      rw [e1] at h
      cases x with
      | ref a =>
        simp only at h ⊢
        by_cases q : a = d
        · subst q; rw [hd] at h; cases h
        · rw [L2.upd_ne q]; exact h
      | _ => cases h
theorem items_get : ∀ {ks : List Ky} {us : List U} {i : Nat}, (itemsI ks us)[i]? = match ks[i]?, us[i]? with | some k, some v => some (Im.many [.d (dkey k), v]) | _, _ => none
  | [], vs, i => by simp [itemsI]
  | u :: us, [], i => by cases i <;> simp [itemsI] <;> (split <;> first | rfl | simp_all)
  | u :: us, v :: vs, 0 => by simp [itemsI]
  | u :: us, v :: vs, i + 1 => by
    rw [itemsI, List.getElem?_cons_succ, items_get, List.getElem?_cons_succ, List.getElem?_cons_succ]
theorem items_len : ∀ {us : List Ky} {vs : List U}, us.length = vs.length → (itemsI us vs).length = us.length
  | [], _, _ => rfl
  | _ :: _, [], h => by cases h
  | u :: us, v :: vs, h => by rw [itemsI, List.length_cons, List.length_cons, items_len (by simpa using h)]
theorem it_items {w : Wd} {d : Addr} {o : PySem.Obj} {kvs : List (Key × V)} {ks : List Ky} {us : List U} (h : w.H d = some (.frz o (.dK kvs))) (nl : ¬ Live w d) (hz : kvs.length ≤ sizeLine) (e : kvs.map (·.1) = ks.map kOf) (rs : RUs c w us (kvs.map (·.2))) (kl : ks.all kyLen = true) :
    ItR c w (itemsI ks us, []) (L2.Iti d o kvs) := by
  have hl : ks.length = kvs.length := by have := congrArg List.length e; simpa using this.symm
  have hl2 : us.length = kvs.length := by have := rs.length; simpa using this
  refine ⟨by rw [items_len (by omega)]; omega, fun w' ok' x i => ?_⟩
  have hd := (x.kp d _ h nl).1
  rw [items_get]
  cases e1 : ks[i]? with
  | none =>
    rw [List.getElem?_eq_none_iff] at e1
    exact ⟨fun y hy => (by cases hy), fun _ => ⟨hd, by omega⟩⟩
  | some k =>
    have hi := (List.getElem?_eq_some_iff.mp e1).1
    cases e2 : us[i]? with
    | none =>
      rw [List.getElem?_eq_none_iff] at e2
      omega
    | some u =>
      refine ⟨fun y hy => ?_, fun hy => (by cases hy)⟩
      cases hy
      refine ⟨⟨hd, by omega⟩, fun v' H' ⟨T, k', v, q1, q2, q3, q4⟩ => ?_⟩
      have rs' : RUs c w' us (kvs.map (·.2)) := (rs.mono' (w := w) (w' := w.lock []) (fun a n => ⟨fun u _ h => ⟨h, n⟩, fun _ _ _ h => h, fun _ h => h⟩) fun _ _ _ e => e).mono0 x
      obtain ⟨v2, g1, g2⟩ := rs'.get e2
      rw [List.getElem?_map, q1] at g1
      cases g1
      have ek : k' = kOf k := by
        have := congrArg (·[i]?) e
        simp only [List.getElem?_map, q1, e1] at this
        simpa using this
      subst ek
      have rk : RU c w' (.d (dkey k)) (L2.kV (kOf k)) := by
        cases k with
        | i n => exact .d (.int n)
        | s z =>
          refine .d (.str ?_)
          have := List.all_eq_true.mp kl _ (List.mem_of_getElem? e1)
          simpa [kyLen, ← big_line, big] using this
      obtain ⟨p1, p2, p3⟩ := two_val ok' q3 (.cons rk (.cons g2 .nil))
      exact ⟨w'.val T _, q4.symm, rfl, p1, p2, q2 ▸ p3⟩
/-- the world with a dict locked -/
def Wd.fz (w : Wd) (d : Addr) (o : HO) : Wd := ⟨L2.upd w.H d o, w.ι, w.s, w.z⟩
theorem Wd.fz_keeps {w : Wd} {d : Addr} {od : PySem.Obj} {kvs : List (Key × V)} (h : w.H d = some (.dK kvs)) : Keeps w.H (w.fz d (.frz od (.dK kvs))).H (Live w) (Live (w.fz d (.frz od (.dK kvs)))) := fun a n => by
  by_cases q : a = d
  · subst q
    refine ⟨fun u nf hu => ?_, fun C dx fs e => ?_, fun xs e => ?_⟩
    · rcases hu with hu | ⟨o', hu⟩
      · rw [h] at hu; cases hu; exact ⟨.inr ⟨od, L2.upd_same⟩, n⟩
      · rw [h] at hu; cases hu
    · rw [h] at e; cases e
    · rw [h] at e; cases e
  · have e : (w.fz d (.frz od (.dK kvs))).H a = w.H a := by show L2.upd w.H d _ a = _; rw [L2.upd_ne q]
    exact ⟨fun u _ hu => ⟨hu.elim (fun hu => .inl (e.trans hu)) fun ⟨o', hu⟩ => .inr ⟨o', e.trans hu⟩, n⟩, fun _ _ _ hu => e.trans hu, fun _ hu => e.trans hu⟩
theorem Wd.uz_keeps {w : Wd} {d : Addr} {od : PySem.Obj} {kvs : List (Key × V)} (h : w.H d = some (.frz od (.dK kvs))) : Keeps w.H (w.fz d (.dK kvs)).H (Live w) (Live (w.fz d (.dK kvs))) := fun a n => by
  by_cases q : a = d
  · subst q
    refine ⟨fun u nf hu => ?_, fun C dx fs e => ?_, fun xs e => ?_⟩
    · rcases hu with hu | ⟨o', hu⟩
      · rw [h] at hu; cases hu; exact absurd rfl (nf _ _)
      · rw [h] at hu; cases hu; exact ⟨.inl L2.upd_same, n⟩
    · rw [h] at e; cases e
    · rw [h] at e; cases e
  · have e : (w.fz d (.dK kvs)).H a = w.H a := by show L2.upd w.H d _ a = _; rw [L2.upd_ne q]
    exact ⟨fun u _ hu => ⟨hu.elim (fun hu => .inl (e.trans hu)) fun ⟨o', hu⟩ => .inr ⟨o', e.trans hu⟩, n⟩, fun _ _ _ hu => e.trans hu, fun _ hu => e.trans hu⟩
theorem Wd.fz_ok {w : Wd} {d : Addr} {o : HO} (ok : OkW c w) (nl : ¬ Live w d) (k : Keeps w.H (w.fz d o).H (Live w) (Live (w.fz d o))) : OkW c (w.fz d o) where
  shape := ok.shape
  cell := fun g i a kk e1 e2 => by
    by_cases n : kk = .gone
    · subst n; trivial
    · exact CellR.mono k (fun _ _ _ e => e) (by show L2.upd w.H d o a = _; rw [L2.upd_ne fun q => nl (by rw [← q]; exact .inl ⟨g, i, kk, e1, e2, n⟩)]) (ok.cell g i a kk e1 e2)
  inj := ok.inj
  low := ok.low
  zs := fun a m => by
    obtain ⟨⟨x, e⟩, n⟩ := ok.zs a m
    exact ⟨⟨x, by show L2.upd w.H d o a = _; rw [L2.upd_ne fun q => nl (by rw [← q]; exact .inr m)]; exact e⟩, n⟩
theorem OutE.fz {α : Type} {w : Wd} {d : Addr} {od : PySem.Obj} {kvs : List (Key × V)} {r : RE U} {Q : V → Hp → Prop} (ok : OkW c w) (h : w.H d = some (.dK kvs)) (nl : ¬ Live w d) (ne : ∀ k vs s, r ≠ .ex k vs s) (q : OutE c W w (RU c) r Q) :
    OutE c W (w.fz d (.frz od (.dK kvs))) (RU c) r (fun v H' => H' d = some (.frz od (.dK kvs)) ∧ Q v (L2.upd H' d (.dK kvs))) := by
  cases r with
  | ok u s' =>
    intro w' v e ok' x' ru
    have e1 : (w.fz d (.frz od (.dK kvs))).H d = some (.frz od (.dK kvs)) := L2.upd_same
    obtain ⟨e2, nl'⟩ := x'.keep d _ e1 nl
    refine ⟨e2, q (w'.fz d (.dK kvs)) v e (Wd.fz_ok ok' nl' (Wd.uz_keeps e2)) ⟨fun a x ea na => ?_, x'.io, x'.len, x'.lk, x'.lkd, x'.zz, fun a m => ?_⟩ (ru.mono' (Wd.uz_keeps e2) fun _ _ _ e => e)⟩
    · by_cases qa : a = d
      · subst qa
        rw [h] at ea
        cases ea
        exact ⟨L2.upd_same, nl'⟩
      · have := x'.keep a x (by show L2.upd w.H d _ a = _; rw [L2.upd_ne qa]; exact ea) na
        exact ⟨by show L2.upd w'.H d _ a = _; rw [L2.upd_ne qa]; exact this.1, this.2⟩
    · have qa : a ≠ d := fun z => nl (by rw [← z]; exact .inr m)
      show L2.upd w'.H d _ a = w.H a
      rw [L2.upd_ne qa, x'.zk a m]
      show L2.upd w.H d _ a = _
      rw [L2.upd_ne qa]
  | ex k vs s' => exact absurd rfl (ne _ _ _)
  | no => exact q.elim
theorem mkL_ne {m : Md} {us : List U} {s : Stk} (k : Nat) (vs : List D) (s' : Stk) : mkL m us s ≠ .ex k vs s' := fun h => by
  cases m with
  | val => rw [mkL] at h; cases e : pus us <;> (rw [e] at h; cases h)
  | cell => rw [mkL, alloc] at h; cases e : s.rs <;> (rw [e] at h; cases h)
theorem mkK_ne {m : Md} {ks : List Ky} {us : List U} {s : Stk} (k : Nat) (vs : List D) (s' : Stk) : mkK m ks us s ≠ .ex k vs s' := fun h => by
  cases m with
  | val => rw [mkK] at h; cases e : pus us <;> (rw [e] at h; cases h)
  | cell => rw [mkK, alloc] at h; cases e : s.rs <;> (rw [e] at h; cases h)
theorem blk_ne {α β : Type} {x : RE α} {f : α → Stk → RE β} (h : ∀ a s k vs s', f a s ≠ .ex k vs s') (k : Nat) (vs : List D) (s' : Stk) : x.blk f ≠ .ex k vs s' := fun e => by
  cases x with
  | ok a s => exact h a s k vs s' e
  | ex _ _ _ => cases e
  | no => cases e
/-- what a walk over the items of a dict needs -/
theorem items_lock {f : Env → Stk → RE U} {pv : L2.St → Hp → Option V} {e : Expr} {g : (List Im × List (Nat × Nat)) → Stk → RE U} {T : L2.VK → L2.It → Hp → Prop} {σ : L2.St} {w : Wd} {ρ : Env} {Q : L2.VK} (hp : SP c X e f pv) (ok : OkW c w) (er : EnvR c w ρ σ)
    (h : OutE c W w (RU c) (((f ρ w.s).bind fun u s => RE.of (itemsU u) s).bind g) Q) (ng : ∀ p s k vs s', g p s ≠ .ex k vs s')
    (hT : ∀ (w1 : Wd) (p : List Im × List (Nat × Nat)) (J : L2.It) (Q : L2.VK), OkW c w1 → EnvR c w1 ρ σ → ItR c w1 p J → OutE c W w1 (RU c) (g p w1.s) Q → T Q J w1.H) :
    L2.tLockE (fun σ H Q => L2.iItems (fun σ H Q => ∃ v, pv σ H = some v ∧ Q v H) σ H (T Q)) σ w.H Q ∨ L2.iItems (fun σ H Q => ∃ v, pv σ H = some v ∧ Q v H) σ w.H (T Q) := by
  cases e1 : f ρ w.s with
  | no => rw [e1] at h; exact h.elim
  | ex k vs s' => exact absurd e1 (hp.ne _ _ _ _ _)
  | ok u s1 =>
    obtain ⟨rfl, v, e2, r⟩ := hp.ok w ρ σ u s1 ok er e1
    rw [e1] at h
    replace h : OutE c W w (RU c) ((RE.of (itemsU u) w.s).bind g) Q := h
    obtain ⟨p, e3, h⟩ := h.of
    unfold itemsU at e3
    split at e3
    · rename_i ks xs
      split at e3
      · rename_i kl
        cases e3
        cases r with
        | d r =>
          cases r with
          | @dct _ _ d kvs h1 h2 h3 h4 h5 =>
            obtain ⟨h1 | ⟨o, h1⟩, nl⟩ := h1
            · refine .inl ⟨d, .dK kvs, h1, trivial, fun od => ?_⟩
              have hK := Wd.fz_keeps (od := od) h1
              have okz := Wd.fz_ok ok nl hK
              have hfz : (w.fz d (.frz od (.dK kvs))).H d = some (.frz od (.dK kvs)) := L2.upd_same
              exact ⟨.ref d, hp.st σ w.H d od kvs _ h1 e2, d, od, kvs, rfl, L2.upd_same, hT (w.fz d (.frz od (.dK kvs))) _ _ _ okz (er.mono1 hK fun _ _ _ e => e)
                (it_items hfz nl h2 h3 (.of_d (h5.mono hK)) kl) (OutE.fz (α := Nat) ok h1 nl (ng _ _) h)⟩
            · exact .inr ⟨.ref d, e2, d, o, kvs, rfl, h1, hT w _ _ _ ok er (it_items h1 nl h2 h3 (.of_d h5) kl) h⟩
      · cases e3
    · cases e3
end
end Z
end

section
set_option autoImplicit false
set_option linter.all false
set_option maxRecDepth 100000
namespace Z
open PySem (Str sizeLine Value Addr PyData Expr)
open L2 (V HO Hp Key Cx)
def OutS (c : Cfg) (W : L2.XK) (D : L2.Ends) (w : Wd) : RS → Prop
  | .nx ρ s => ∀ (w' : Wd) (σ' : L2.St), w'.s = s → OkW c w' → Ext w w' → EnvR c w' ρ σ' → D.nx σ' w'.H
  | .ret u s => ∀ (w' : Wd) (v : V), w'.s = s → OkW c w' → Ext w w' → RU c w' u v → D.rt v w'.H
  | .brk ρ s => ∀ (w' : Wd) (σ' : L2.St), w'.s = s → OkW c w' → Ext w w' → EnvR c w' ρ σ' → D.bk σ' w'.H
  | .cnt ρ s => ∀ (w' : Wd) (σ' : L2.St), w'.s = s → OkW c w' → Ext w w' → EnvR c w' ρ σ' → D.ct σ' w'.H
  | .ex k vs s => ∀ (w' : Wd) (cls : Value) (dx : Option Addr), w'.s = s → OkW c w' → Ext w w' → RX c w' k vs cls dx → W cls dx w'.H
  | .no => False
def tS (c : Cfg) (W : L2.XK) (f : Env → Stk → RS) : L2.TS := fun D σ H => ∃ (w : Wd) (ρ : Env), w.H = H ∧ OkW c w ∧ EnvR c w ρ σ ∧ OutS c W D w (f ρ w.s)
def SS (c : Cfg) (X : Cx) (W : L2.XK) (st : PySem.Stmt) (f : Env → Stk → RS) : Prop := L2.PS X st (tS c W f)
def SSs (c : Cfg) (X : Cx) (W : L2.XK) (st : List PySem.Stmt) (f : Env → Stk → RS) : Prop := L2.PSs X st (tS c W f)
theorem ps_weak {X : Cx} {e : PySem.Stmt} {t u : L2.TS} (h : L2.PS X e t) (k : ∀ D σ H, u D σ H → t D σ H) : L2.PS X e u := ⟨fun pins s σ H D I q => h.run pins s σ H D I (k D σ H q)⟩
theorem pss_weak {X : Cx} {e : List PySem.Stmt} {t u : L2.TS} (h : L2.PSs X e t) (k : ∀ D σ H, u D σ H → t D σ H) : L2.PSs X e u := ⟨fun pins s σ H D I q => h.run _ _ _ _ _ I (k _ _ _ q)⟩
section
variable {c : Cfg} {X : Cx} {W : L2.XK} {D : L2.Ends}
theorem OutS.mono {w w1 : Wd} {r : RS} (x : Ext w w1) (h : OutS c W D w r) : OutS c W D w1 r := by
  cases r with
  | nx ρ s => exact fun w' σ' e ok x' r => h w' σ' e ok (x.trans x') r
  | ret u s => exact fun w' σ' e ok x' r => h w' σ' e ok (x.trans x') r
  | brk ρ s => exact fun w' σ' e ok x' r => h w' σ' e ok (x.trans x') r
  | cnt ρ s => exact fun w' σ' e ok x' r => h w' σ' e ok (x.trans x') r
  | ex k vs s => exact fun w' cls dx e ok x' r => h w' cls dx e ok (x.trans x') r
  | no => exact h
theorem OutS.of {α β : Type} {w : Wd} {R : Wd → α → β → Prop} {x : RE α} {f : α → Stk → RS} {N : β → Hp → Prop} (h : OutS c W D w (RS.of x f))
    (n : ∀ (w1 : Wd) (u : α) (v : β), OkW c w1 → Ext w w1 → R w1 u v → OutS c W D w1 (f u w1.s) → N v w1.H) : OutE c W w R x N := by
  cases x with
  | ok u s' => exact fun w' v e ok x' r => n w' u v ok x' r (by rw [e]; exact OutS.mono x' h)
  | ex k vs s' => exact h
  | no => exact h
theorem OutS.sof {α : Type} {w : Wd} {o : Option α} {s : Stk} {f : α → Stk → RS} (h : OutS c W D w (RS.of (RE.of o s) f)) : ∃ a, o = some a ∧ OutS c W D w (f a s) := by
  cases o with
  | none => exact h.elim
  | some a => exact ⟨a, rfl, h⟩
theorem tG.sof {α β : Type} {R : Wd → α → β → Prop} {w : Wd} {ρ : Env} {σ : L2.St} {x : Env → Stk → RE α} {f : α → Stk → RS} {N : β → Hp → Prop}
    (ok : OkW c w) (er : EnvR c w ρ σ) (h : OutS c W D w (RS.of (x ρ w.s) f))
    (n : ∀ (w1 : Wd) (u : α) (v : β), OkW c w1 → EnvR c w1 ρ σ → Ext w w1 → R w1 u v → OutS c W D w1 (f u w1.s) → N v w1.H) : tG c W R x σ w.H N :=
  ⟨w, ρ, rfl, ok, er, h.of fun w1 u v ok1 x1 r q => n w1 u v ok1 (er.mono x1) x1 r q⟩
theorem OutS.nxt {w : Wd} {ρ : Env} {σ : L2.St} (ok : OkW c w) (er : EnvR c w ρ σ) (h : OutS c W D w (.nx ρ w.s)) : D.nx σ w.H := h w σ rfl ok (.refl w) er
/-! ### plain statements -/
theorem ss_asg {pos : PySem.Pos} {tg e : Expr} {t : Tg} {f : Env → Stk → RE U} (he : SE c X W e f) (hg : L2.PG X tg (tgT c t)) (hn : notStar tg = true)
    (hs : PySem.swapsWithSole [tg] e pos.line X.env = pure false) (hw : PySem.swappedStores [tg] e X.env = pure none) :
    SS c X W (.Assign [tg] e pos) (fun ρ s => RS.of (f ρ s) fun u s => RS.of (RE.of (bindT t (.one u) ρ) s) fun ρ' s => .nx ρ' s) :=
  ps_weak (L2.ps_asg he hg hs hw (by rw [assign_cons hn]; rfl)) fun D σ H ⟨w, ρ, e, ok, er, h⟩ => by
    subst e
    exact tG.sof ok er h fun w1 u v ok1 er1 x1 r h => by
      obtain ⟨ρ', e, h⟩ := h.sof
      exact ⟨w1, ρ, ρ', .one u, rfl, ok1, er1, r, e, fun σ' er' _ => h.nxt ok1 er'⟩
theorem ss_ann {pos : PySem.Pos} {tg e ann : Expr} {k : Int} {t : Tg} {f : Env → Stk → RE U} (he : SE c X W e f) (hg : L2.PG X tg (tgT c t))
    (hs : PySem.swapsWith e (some tg) pos.line X.env = pure false) :
    SS c X W (.AnnAssign tg ann (some e) k pos) (fun ρ s => RS.of (f ρ s) fun u s => RS.of (RE.of (bindT t (.one u) ρ) s) fun ρ' s => .nx ρ' s) :=
  ps_weak (L2.ps_ann he hg hs) fun D σ H ⟨w, ρ, e, ok, er, h⟩ => by
    subst e
    exact tG.sof ok er h fun w1 u v ok1 er1 x1 r h => by
      obtain ⟨ρ', e, h⟩ := h.sof
      exact ⟨w1, ρ, ρ', .one u, rfl, ok1, er1, r, e, fun σ' er' _ => h.nxt ok1 er'⟩
/-- a statement whose wish is a value's, stored at a name -/
theorem ss_set {st : PySem.Stmt} {i : Nat} {f : Env → Stk → RE U} (h : L2.PS X st (L2.tAsg (tG c W (RU c) f) (L2.gName i))) :
    SS c X W st (fun ρ s => RS.of (f ρ s) fun u s => RS.of (RE.of (bindT (.name i) (.one u) ρ) s) fun ρ' s => .nx ρ' s) :=
  ps_weak h fun D σ H ⟨w, ρ, e, ok, er, h⟩ => by
    subst e
    exact tG.sof ok er h fun w1 u v ok1 er1 x1 r h => by
      obtain ⟨ρ', e, h⟩ := h.sof
      rw [bindT] at e
      cases e
      exact h.nxt ok1 (er1.set r i)
theorem ss_par2 {st : PySem.Stmt} {i j n : Nat} {f : Env → Stk → RE (List U)} (h : L2.PS X st (L2.tPar i j (tG c W (RA c n) f))) (hn : n = 2) :
    SS c X W st (fun ρ s => RS.of (f ρ s) fun us s => if us.length = [i, j].length then .nx (setAll ρ [i, j] us) s else .no) :=
  ps_weak h fun D σ H ⟨w, ρ, e, ok, er, h⟩ => by
    subst e
    exact tG.sof ok er h fun w1 us vs ok1 er1 x1 r h => by
      obtain ⟨rs, hl⟩ := r
      rw [hn] at hl
      match vs, us, rs, hl with
      | [v, v'], [u, u'], .cons r (.cons r' .nil), _ =>
        exact ⟨v, v', rfl, OutS.nxt ok1 ((er1.set r i).set r' j) h⟩
theorem ss_par3 {st : PySem.Stmt} {i j l n : Nat} {f : Env → Stk → RE (List U)} (h : L2.PS X st (L2.tPar3 i j l (tG c W (RA c n) f))) (hn : n = 3) :
    SS c X W st (fun ρ s => RS.of (f ρ s) fun us s => if us.length = [i, j, l].length then .nx (setAll ρ [i, j, l] us) s else .no) :=
  ps_weak h fun D σ H ⟨w, ρ, e, ok, er, h⟩ => by
    subst e
    exact tG.sof ok er h fun w1 us vs ok1 er1 x1 r h => by
      obtain ⟨rs, hl⟩ := r
      rw [hn] at hl
      match vs, us, rs, hl with
      | [v, v', v''], [u, u', u''], .cons r (.cons r' (.cons r'' .nil)), _ =>
        exact ⟨v, v', v'', rfl, OutS.nxt ok1 (((er1.set r i).set r' j).set r'' l) h⟩
theorem ss_aug {o : BOp} {i : Nat} {x : Str} {pos pos' : PySem.Pos} {e : Expr} {f : Env → Stk → RE U} (ho : o = .add ∨ o = .sub ∨ o = .mul) (hN : X.N.Nodup) (hi : X.N[i]? = some x) (hx : L2.Loc X.env.scope x) (he : SE c X W e f) (hf : X.fn x = true ∨ List.lookup x X.env.scope.names = some .local) :
    SS c X W (.AugAssign (.Name x pos') (opOf o) e pos) (fun ρ s => RS.of (RE.of (getV ρ i) s) fun x s => RS.of (f ρ s) fun y s => RS.of (RE.of (augU o x y) s) fun z s => .nx (ρ.set i (some z)) s) :=
  ps_weak (L2.ps_aug hN hi hx he (iop_int (X := X) o ho) hf) fun D σ H ⟨w, ρ, e, ok, er, h⟩ => by
    subst e
    obtain ⟨u, e1, h⟩ := h.sof
    have : ρ[i]? = some (some u) := by
      unfold getV at e1
      split at e1
      · rename_i e2; cases e1; exact e2
      · cases e1
    obtain ⟨v, e2, r⟩ := er.2 i u this
    refine ⟨v, e2, tG.sof ok er h fun w1 u' v' ok1 er1 x1 r' h => ?_⟩
    obtain ⟨z, e3, h⟩ := h.sof
    unfold augU at e3
    split at e3
    · rw [Option.map_eq_some_iff] at e3
      obtain ⟨k, e3, rfl⟩ := e3
      obtain rfl := asInt_ok r rfl
      obtain rfl := asInt_ok r' rfl
      exact ⟨_, _, k, rfl, rfl, e3, h.nxt ok1 (er1.set (.d (.int k)) i)⟩
    · cases e3
theorem ss_exp {e : Expr} {pos : PySem.Pos} {f : Env → Stk → RE U} (he : SE c X W e f) (hs : PySem.swapsWith e none pos.line X.env = pure false) : SS c X W (.Expr e pos) (fun ρ s => RS.of (f ρ s) fun _ s => .nx ρ s) :=
  ps_weak (L2.ps_expr he hs) fun D σ H ⟨w, ρ, e, ok, er, h⟩ => by
    subst e
    exact tG.sof ok er h fun w1 u v ok1 er1 x1 r h => h.nxt ok1 er1
theorem ss_nx {st : PySem.Stmt} (h : L2.PS X st L2.tNext) : SS c X W st (fun ρ s => .nx ρ s) := ps_weak h fun D σ H ⟨w, ρ, e, ok, er, h⟩ => by
  subst e; exact h.nxt ok er
theorem ss_ret {e : Expr} {pos : PySem.Pos} {f : Env → Stk → RE U} (he : SE c X W e f) : SS c X W (.Return (some e) pos) (fun ρ s => RS.of (f ρ s) fun u s => .ret u s) :=
  ps_weak (L2.ps_ret he) fun D σ H ⟨w, ρ, e, ok, er, h⟩ => by
    subst e
    exact tG.sof ok er h fun w1 u v ok1 er1 x1 r h => h w1 v rfl ok1 (.refl w1) r
theorem ss_retN {pos : PySem.Pos} : SS c X W (.Return none pos) (fun ρ s => .ret (.d .non) s) :=
  ps_weak L2.ps_retN fun D σ H ⟨w, ρ, e, ok, er, h⟩ => by
    subst e
    exact h w .non rfl ok (.refl w) (.d .non)
theorem ss_brk {pos : PySem.Pos} : SS c X W (.Break pos) (fun ρ s => .brk ρ s) :=
  ps_weak L2.ps_break fun D σ H ⟨w, ρ, e, ok, er, h⟩ => by
    subst e
    exact h w σ rfl ok (.refl w) er
theorem ss_cnt {pos : PySem.Pos} : SS c X W (.Continue pos) (fun ρ s => .cnt ρ s) :=
  ps_weak L2.ps_continue fun D σ H ⟨w, ρ, e, ok, er, h⟩ => by
    subst e
    exact h w σ rfl ok (.refl w) er
theorem ss_ife {p : Expr} {a b : List PySem.Stmt} {pos : PySem.Pos} {f : Env → Stk → RE U} {g k : Env → Stk → RS} (hp : SB c X W p (tr f)) (ha : SSs c X W a g) (hb : SSs c X W b k) :
    SS c X W (.If p a b pos) (fun ρ s => RS.of (f ρ s) fun u s => RS.of (RE.of (truth s u) s) fun t s => cond t (g ρ s) (k ρ s)) :=
  ps_weak (L2.ps_if hp ha hb) fun D σ H ⟨w, ρ, e, ok, er, h⟩ => by
    subst e
    replace h : OutS c W D w (RS.of (tr f ρ w.s) fun t s => cond t (g ρ s) (k ρ s)) := by
      have e : ∀ s, (RS.of (tr f ρ s) fun t s => cond t (g ρ s) (k ρ s)) = RS.of (f ρ s) fun u s => RS.of (RE.of (truth s u) s) fun t s => cond t (g ρ s) (k ρ s) := fun s => by
        rw [tr]; cases f ρ s <;> rfl
      rw [e]; exact h
    refine tG.sof ok er h fun w1 t t' ok1 er1 x1 r h => ?_
    cases r
    cases t with
    | true => exact ⟨w1, ρ, rfl, ok1, er1, h⟩
    | false => exact ⟨w1, ρ, rfl, ok1, er1, h⟩
theorem sss_nil : SSs c X W [] (fun ρ s => .nx ρ s) := pss_weak L2.pss_nil fun D σ H ⟨w, ρ, e, ok, er, h⟩ => by
  subst e; exact h.nxt ok er
theorem sss_cons {st : PySem.Stmt} {r : List PySem.Stmt} {f g : Env → Stk → RS} (h1 : SS c X W st f) (h2 : SSs c X W r g) : SSs c X W (st :: r) (fun ρ s => (f ρ s).seq fun ρ s => g ρ s) :=
  pss_weak (L2.pss_cons h1 h2) fun D σ H ⟨w, ρ, e, ok, er, h⟩ => by
    subst e
    refine ⟨w, ρ, rfl, ok, er, ?_⟩
    replace h : OutS c W D w ((f ρ w.s).seq fun ρ s => g ρ s) := h
    cases e : f ρ w.s with
    | nx ρ' s =>
      rw [e] at h
      intro w' σ' e' ok' x' er'
      exact ⟨w', ρ', rfl, ok', er', by rw [e']; exact OutS.mono x' h⟩
    | ret u s => rw [e] at h; exact h
    | brk ρ s => rw [e] at h; exact h
    | cnt ρ s => rw [e] at h; exact h
    | ex k vs s => rw [e] at h; exact h
    | no => rw [e] at h; exact h
/-! ### loops -/
theorem RX.same {w : Wd} {s : Stk} {k : Nat} {vs : List Z.D} {cls : Value} {dx : Option Addr} (h : RX c w k vs cls dx) (nl : ∀ a, Live (w.st s) a ↔ Live w a) : RX c (w.st s) k vs cls dx := by
  obtain ⟨h1, hx, h2⟩ := h
  refine ⟨h1, hx, ?_⟩
  split at h2
  · rename_i e; rw [if_pos e]; exact h2
  · rename_i e
    rw [if_neg e]
    obtain ⟨dd, fs, q1, q2, q3, q4, q5⟩ := h2
    exact ⟨dd, fs, q1, q2, fun l => q3 ((nl dd).mp l), q4, q5.mono fun a n => ⟨fun u _ hu => ⟨hu, fun l => n ((nl a).mp l)⟩, fun _ _ _ e => e, fun _ e => e⟩⟩
theorem st_keeps {w : Wd} {l : List (Nat × Nat)} : Keeps w.H (w.st (w.s.unlock l)).H (Live w) (Live (w.st (w.s.unlock l))) := fun a n => ⟨fun u _ h => ⟨h, n⟩, fun _ _ _ h => h, fun _ h => h⟩
/-- a turn's end, behind which the walk goes on -/
theorem OutS.turn {w1 w : Wd} {l : List (Nat × Nat)} {r : RS} {k : Env → Stk → RS} {N : L2.St → Hp → Prop} (xw : Ext (w1.lock l) w) (h : OutS c W D w1 ((r.turn k).unlock w1.s.lk))
    (n : ∀ (w' : Wd) (ρ : Env) (σ' : L2.St), OkW c w' → Ext (w1.lock l) w' → EnvR c w' ρ σ' → OutS c W D w1 ((k ρ w'.s).unlock w1.s.lk) → N σ' w'.H) : OutS c W { nx := N, rt := D.rt, bk := D.nx, ct := N } w r := by
  cases r with
  | nx ρ s => exact fun w' σ' e ok x er => n w' ρ σ' ok (xw.trans x) er (by rw [e]; exact h)
  | cnt ρ s => exact fun w' σ' e ok x er => n w' ρ σ' ok (xw.trans x) er (by rw [e]; exact h)
  | brk ρ s =>
    intro w' σ' e ok x er
    exact h (w'.st (w'.s.unlock w1.s.lk)) σ' (by rw [← e]; rfl) (Wd.st_ok ok _) (Wd.unlock_ext (xw.trans x)) (er.mono1 st_keeps fun _ _ _ e => e)
  | ret u s =>
    intro w' v e ok x ru
    exact h (w'.st (w'.s.unlock w1.s.lk)) v (by rw [← e]; rfl) (Wd.st_ok ok _) (Wd.unlock_ext (xw.trans x)) (ru.mono' st_keeps fun _ _ _ e => e)
  | ex k' vs s =>
    intro w' cls dx e ok x rx
    exact h (w'.st (w'.s.unlock w1.s.lk)) cls dx (by rw [← e]; rfl) (Wd.st_ok ok _) (Wd.unlock_ext (xw.trans x)) (rx.same fun a => Iff.rfl)
  | no => exact h.elim
theorem OutS.turn0 {w1 w : Wd} {r : RS} {k : Env → Stk → RS} {N : L2.St → Hp → Prop} (xw : Ext w1 w) (h : OutS c W D w1 (r.turn k))
    (n : ∀ (w' : Wd) (ρ : Env) (σ' : L2.St), OkW c w' → Ext w1 w' → EnvR c w' ρ σ' → OutS c W D w1 (k ρ w'.s) → N σ' w'.H) : OutS c W { nx := N, rt := D.rt, bk := D.nx, ct := N } w r := by
  cases r with
  | nx ρ s => exact fun w' σ' e ok x er => n w' ρ σ' ok (xw.trans x) er (by rw [e]; exact h)
  | cnt ρ s => exact fun w' σ' e ok x er => n w' ρ σ' ok (xw.trans x) er (by rw [e]; exact h)
  | brk ρ s => exact fun w' σ' e ok x er => h w' σ' e ok (xw.trans x) er
  | ret u s => exact fun w' v e ok x ru => h w' v e ok (xw.trans x) ru
  | ex k' vs s => exact fun w' cls dx e ok x rx => h w' cls dx e ok (xw.trans x) rx
  | no => exact h.elim
def forF (t : Tg) (f : Env → Stk → RS) : Im → Env → Stk → RS := fun x ρ s => RS.of (RE.of (bindT t x ρ) s) fun ρ1 s => f ρ1 s
def frT (g : L2.TG) (tb : L2.TS) (D : L2.Ends) (σ : L2.St) (J : L2.It) (H1 : Hp) : Prop := ∃ W : Nat → Nat → L2.St → Hp → Prop, (∃ m, W 0 m σ H1) ∧ ∀ (i m : Nat) (σ : L2.St) (H : Hp), W i m σ H →
  (J.stop i H ∧ D.nx σ H ∨ J.go i H ∧ ∃ N : L2.St → Hp → Prop, (∀ σ' H', N σ' H' → ∃ m', m' < m ∧ W (i + 1) m' σ' H') ∧ ∀ (x : V) (H' : Hp), J.yld i H x H' → g x σ H' fun σ2 H2 => tb { nx := N, rt := D.rt, bk := D.nx, ct := N } σ2 H2)
theorem for_body {t : Tg} {f : Env → Stk → RS} {w1 : Wd} {ρ : Env} {σ : L2.St} {p : List Im × List (Nat × Nat)} {J : L2.It} (ok1 : OkW c w1) (er1 : EnvR c w1 ρ σ) (r : ItR c w1 p J)
    (h : OutS c W D w1 ((forL (forF t f) p.1 ρ (w1.s.lock p.2)).unlock w1.s.lk)) : frT (tgT c t) (tS c W f) D σ J w1.H := by
  obtain ⟨hl, hw⟩ := r
  refine ⟨fun i mm σ H => mm + i = p.1.length ∧ ∃ (u : Wd) (ρ : Env), OkW c u ∧ Ext (w1.lock p.2) u ∧ EnvR c u ρ σ ∧ H = u.H ∧ OutS c W D w1 ((forL (forF t f) (p.1.drop i) ρ u.s).unlock w1.s.lk), ⟨p.1.length, rfl, w1.lock p.2, ρ, Wd.lock_ok ok1 _, .refl _, er1.lock, rfl, h⟩, fun i mm σ H ⟨hm, u, ρ, oku, xu, er, eH, hq⟩ => ?_⟩
  subst eH
  obtain ⟨hgo, hst⟩ := hw u oku xu.ex0 i
  cases e : p.1[i]? with
  | none =>
    refine .inl ⟨hst e, ?_⟩
    rw [List.getElem?_eq_none_iff] at e
    rw [List.drop_eq_nil_of_le e] at hq
    exact hq (u.st (u.s.unlock w1.s.lk)) σ rfl (Wd.st_ok oku _) (Wd.unlock_ext xu) (er.mono1 st_keeps fun _ _ _ e => e)
  | some x =>
    obtain ⟨go, yl⟩ := hgo x e
    have hi' := (List.getElem?_eq_some_iff.mp e).1
    refine .inr ⟨go, fun σ' H' => ∃ (u : Wd) (ρ : Env), OkW c u ∧ Ext (w1.lock p.2) u ∧ EnvR c u ρ σ' ∧ H' = u.H ∧ OutS c W D w1 ((forL (forF t f) (p.1.drop (i + 1)) ρ u.s).unlock w1.s.lk), fun σ' H' q => ⟨mm - 1, by omega, by omega, q⟩, fun v H' y => ?_⟩
    obtain ⟨w'', eH, es, ok'', x'', ir⟩ := yl v H' y
    subst eH
    have ed : p.1.drop i = x :: p.1.drop (i + 1) := by
      rw [List.drop_eq_getElem_cons hi']
      congr 1
      rw [List.getElem?_eq_getElem hi'] at e
      exact Option.some.inj e
    rw [ed, forL, forF] at hq
    cases eb : bindT t x ρ with
    | none => rw [eb] at hq; exact hq.elim
    | some ρ' =>
      rw [eb] at hq
      replace hq : OutS c W D w1 (((f ρ' u.s).turn fun ρ s => forL (forF t f) (p.1.drop (i + 1)) ρ s).unlock w1.s.lk) := hq
      rw [← es] at hq
      exact ⟨w'', ρ, ρ', x, rfl, ok'', er.mono x'', ir, eb, fun σ' er' _ => ⟨w'', ρ', rfl, ok'', er', OutS.turn (xu.trans x'') hq fun w' ρ σ' ok' x' er'' h => ⟨w', ρ, ok', x', er'', rfl, h⟩⟩⟩
theorem ss_for {tg iter : Expr} {body : List PySem.Stmt} {t : Tg} {fI : Env → Stk → RE (List Im × List (Nat × Nat))} {f : Env → Stk → RS} {pos : PySem.Pos} (hp : PySem.PassesOwn (PySem.model X.prog X.w) X.A X.env X.xe) (hc : X.calm = true) (hi : SI c X W tg iter fI) (hg : L2.PG X tg (tgT c t)) (hb : SSs c X W body f)
    (hs : ∀ x, PySem.foldedSetIterable iter X.env x = pure x) : SS c X W (.For tg iter body [] pos) (fun ρ s => RS.of (fI ρ s) fun p s => (forL (forF t f) p.1 ρ (s.lock p.2)).unlock s.lk) :=
  ps_weak (L2.ps_for hp hc hi hg hb hs) fun D σ H ⟨w, ρ, e, ok, er, h⟩ => by
    subst e
    exact tG.sof ok er h fun w1 p J ok1 er1 x1 r h => for_body ok1 er1 r h
theorem ss_whl {p : Expr} {body : List PySem.Stmt} {n : Nat} {fc : Env → Stk → RE U} {f : Env → Stk → RS} {pos : PySem.Pos} (hp : PySem.PassesOwn (PySem.model X.prog X.w) X.A X.env X.xe) (hc : SB c X W p (tr fc)) (hb : SSs c X W body f) :
    SS c X W (.While p body [] pos) (fun ρ s => whlL (fun ρ s => (fc ρ s).bind fun u s => RE.of (truth s u) s) (fun ρ s => f ρ s) n ρ s) :=
  ps_weak (L2.ps_while hp hc hb) fun D σ H ⟨w, ρ, e, ok, er, h⟩ => by
    subst e
    refine ⟨fun m σ H => ∃ (u : Wd) (ρ : Env), OkW c u ∧ EnvR c u ρ σ ∧ H = u.H ∧ OutS c W D u (whlL (fun ρ s => (fc ρ s).bind fun u s => RE.of (truth s u) s) (fun ρ s => f ρ s) m ρ u.s), ⟨n, w, ρ, ok, er, rfl, h⟩, fun m σ H ⟨u, ρ, oku, er, eH, hq⟩ => ?_⟩
    subst eH
    cases m with
    | zero => exact hq.elim
    | succ m =>
      rw [whlL] at hq
      refine tG.sof oku er hq fun w1 b b' ok1 er1 x1 r h => ?_
      cases r
      cases b with
      | false => exact h.nxt ok1 er1
      | true =>
        refine ⟨fun σ' H' => ∃ (u : Wd) (ρ : Env), OkW c u ∧ EnvR c u ρ σ' ∧ H' = u.H ∧ OutS c W D u (whlL (fun ρ s => (fc ρ s).bind fun u s => RE.of (truth s u) s) (fun ρ s => f ρ s) m ρ u.s), fun σ' H' q => ⟨m, Nat.lt_succ_self m, q⟩, w1, ρ, rfl, ok1, er1, ?_⟩
        exact OutS.turn0 (.refl w1) h fun w' ρ σ' ok' x' er' h => ⟨w', ρ, ok', er', rfl, OutS.mono x' h⟩
end
end Z
end

section
set_option autoImplicit false
set_option linter.all false
set_option maxRecDepth 100000
namespace Z
open PySem
set_option maxHeartbeats 200000 in
theorem kin_classX {prog : Program} {w : World} {A : Around} {E : Value → Shared → Prop} {s : Shared} {K : W.Frag} {x D : Addr} {ox od : Obj} {Q : Option Value → Shared → Prop}
  (C : L2.ExcC K D) (X : K.In s.heap) (I : W.InstAt s.heap x ox D (some od)) (h : Q (some (Value.ref D)) { heap := s.heap, gens := s.gens, drawn := s.drawn, toks := s.toks + 1, os := s.os }) : wpAny (model prog w) A (getAttr? (Value.ref x) (Str.ofString "__class__")) Q E s := by
  obtain ⟨hga, hgt, hsub, hdct, ha, hn, htk, hm⟩ := C
  have hf := W.findObj_data (K := K) (C := D) (od := od) (name := Str.ofString "__class__") (by obtain ⟨cd, hc, _⟩ := W.any_some hdct; rw [hc]; rfl) ha hn htk
  obtain ⟨hp, g, d, t, os⟩ := s
  have L0 : W.Looks (model prog w) hp (typeOf (Value.ref x)) (Value.ref D) := W.InstAt.type I
  have L1 := W.looks_findIn (M := model prog w) X hga
  have L2 := W.looks_findIn (M := model prog w) X hgt
  have L3 := W.looks_find (M := model prog w) X I hf
  have sub : W.Looks (model prog w) hp (isInstance (Value.ref x) (Value.type "BaseException")) true := W.Looks.andThen (f := fun ty => isSubtype ty (Value.type "BaseException")) L0 (W.looks_subIn X hsub)
  have hx2 : (Value.builtin "BaseException.__getattribute__" == Value.builtin "object.__getattribute__") = false := W.kin_classE._proof_1
  unfold getAttr?
  refine wpAny_bind (wpAny_mkText ?_)
  unfold getAttrBy?
  refine wpAny_bind (wpAny_attempt (wpAny_holding ?_))
  refine wpAny_bind (W.Looks.at L0 (wpAny_bind (W.Looks.at L1 ?_)))
  show wpAny _ _ (if (onTheHeap (Value.ref D) && Value.builtin "BaseException.__getattribute__" == Value.builtin "object.__getattribute__") = true then _ else _) _ _ _
  rw [hx2, Bool.and_false, if_neg Bool.false_ne_true]
  unfold getAttrByItsOwn
  refine wpAny_bind ?_
  unfold hookBefore
  rw [if_pos (show onTheHeap (Value.ref D) = true from rfl)]
  refine W.Looks.at L2 (wpAny_bind (wpAny_attempt (wpAny_holding ?_)))
  unfold callGetattribute
  have hx0 : (false && onTheHeap (Value.builtin "BaseException.__getattribute__")) = false := rfl
  rw [hx0, if_neg Bool.false_ne_true]
  unfold boundAndCalled
  rw [PySem.F.excAttr_ValueError.ga.bind]
  refine wpAny_bind (wpAny_pure ?_)
  show wpAny _ _ (PySem.call (Value.builtin "BaseException.__getattribute__") [Value.ref x, Value.str (Str.ofString "__class__") t]) _ _ _
  refine wpAny_call ?_
  refine codeAny_call_builtin (id := "BaseException.__getattribute__") (b := Builtin.«object.__getattribute__») PySem.F.excAttr_ValueError.ga.plain PySem.F.entry_bexc_ga ?_
  have hk := W.kin_classE._proof_2
  have hk2 := W.kin_classE._proof_3
  refine W.check_slot (i := "BaseException.__getattribute__") (self := Value.ref x) (rest := [Value.str (Str.ofString "__class__") t]) (kw := []) hk hk2 sub (PySem.F.args_bexc_ga _ _) ?_
  refine wpAny_bind (wpAny_of_eq (t := slotArgs "__getattribute__" 1 { pos := [Value.ref x, Value.str (Str.ofString "__class__") t] }) (a := (Value.ref x, [Value.str (Str.ofString "__class__") t])) rfl ?_)
  refine wpAny_bind (wpAny_pure ?_)
  refine wpAny_bind (W.Looks.at L0 (wpAny_bind (W.Looks.at L3 ?_)))
  unfold Builtin.ObjectAttr.bindTo
  refine wpAny_bind (wpAny_holding (wpAny_call (W.class_get X I hm (wpAny_pure ?_))))
  show wpAny _ _ (handedOut (Value.ref D)) _ _ _
  rw [W.handedOut_of rfl]
  exact wpAny_pure (wpAny_pure h)
theorem cls_at {K : W.Frag} {D : Addr} (h : W.hasDictIn K D = true) : ∃ c d cd sl, List.lookup D K = some { cls := c, dict := d, data := Data.cls cd, slots := sl } := by
  obtain ⟨cd, hc, _⟩ := W.any_some h
  unfold W.clsIn at hc
  split at hc
  · rename_i e; exact ⟨_, _, _, _, e⟩
  · cases hc
theorem kitx_excX {K : W.Frag} {x D : Addr} {ox od : Obj} (C : L2.ExcC K D) : W.KitX K (Value.ref x) (Value.ref D) (fun h => W.InstAt h x ox D (some od)) where
  ty := fun M h X I => W.InstAt.type I
  it := fun M h X I => by
    obtain ⟨c, d, cd, sl, e⟩ := cls_at C.hd
    intro A Q E s k q
    exact wpAny_bind (wpAny_loadPart (k _ _ (X _ _ e)) (wpAny_pure q))
  ne := fun h tp dd its n sl X e => by
    obtain ⟨c, d, cd, sl', e'⟩ := cls_at C.hd
    have := X _ _ e'
    cases q : (Value.ref D == Value.ref tp) with
    | false => rfl
    | true =>
      have q2 : Value.ref D = Value.ref tp := by simpa using q
      cases q2
      rw [e] at this
      cases this
  ca := fun X I h => kin_classX C X I h
theorem call_isX {X : L2.Cx} {a D d : Addr} {oe : Obj} {pn : List (Addr × Obj)} (C : L2.ExcC X.K D) (hz : L2.Zc (Value.ref D) (some d) oe) (hf : ∃ vs, oe.data = Data.fields vs) : L2.CallR (X.suite a ((a, oe) :: pn)) (Value.builtin "isinstance")
    (fun xs H Q => ∃ c cv b fs, xs = [L2.V.ref a, c] ∧ (∀ u, L2.RelV c u → u = cv) ∧ W.kitOne X.K (Value.ref D) cv = some b ∧ H d = some (L2.HO.xd fs) ∧ Q (L2.V.bl b) H) := by
  intro pins s σ H xs us Q I r h
  obtain ⟨c, cv, b, fs, rfl, hcv, e, hd, q⟩ := h
  cases r with
  | cons rx rr =>
    cases rr with
    | cons rt rr =>
      cases rr with
      | nil =>
        cases rx
        obtain rfl := hcv _ rt
        obtain ⟨g1, _⟩ := I.pin (a, oe) (by simp)
        have hd' := I.hok d _ hd
        simp only [L2.ObjOk] at hd'
        obtain ⟨mA, ⟨o, es, ep, ho, _⟩, _⟩ := hd'
        have inst : W.InstAt s.heap a oe D (some o) := ⟨g1, hz.1, by obtain ⟨vs, e⟩ := hf; unfold W.notCls; rw [e], by rw [hz.2]; exact ho⟩
        exact W.kia_one (kitx_excX C) I.kIn inst e (fun z => by cases z) fun tk => ⟨L2.V.bl b, H, I.kept fun _ _ h => h, rfl, q⟩
end Z
end

section
set_option autoImplicit false
set_option linter.all false
set_option maxRecDepth 100000
namespace Z
open PySem (Str sizeLine Value Addr PyData Expr)
open L2 (V HO Hp Key Cx)
/-- what an error's own __init__ does -/
def spX (c : Cfg) (k : Nat) (f : Str) : L2.Sp := fun vs H Q _ => ∃ (a : Addr) (y : V), vs = [.ref a, y] ∧ H a = some (L2.exo a (c.ca k) none) ∧ ∀ dx, H dx = none → dx ≠ a → Q .non (L2.upd (L2.upd H dx (L2.exd dx [(f, y)])) a (L2.exo a (c.ca k) (some dx)))
section
variable {c : Cfg} {X : Cx} {W : L2.XK} {D : L2.Ends}
theorem ss_raise {k lv fn : Nat} {f x : Str} {a : Addr} {fd : PySem.FuncData} {ps : List Str} {fl : Nat} {e : Expr} {p pos rpos : PySem.Pos} {g : Env → Stk → RE (List U)} (hc : X.calm = true) (tk : Tk X W)
    (T : L2.OexC X.K (c.ca k)) (iC : PySem.W.findIn X.K (.ref (c.ca k)) (Str.ofString "__init__") = some (some (.ref a))) (tI : PySem.W.typeIn X.K (.ref a) = some (.type "function")) (F : L2.FnOk X.prog X.w X.K X.mg X.base (L2.CX X.prog X.w) lv a fd ps (spX c k f)) (hr : L2.Room (lv + 1) X.A) (hb : L2.Binds X.K fd ps [])
    (hg : L2.Gl X x) (hm : X.mg x = some (.ref (c.ca k))) (hx : k ∈ c.xs) (hfl : c.fl k = [f]) (hfl2 : fl = 1) (ha : SA c X W [e] g) (hn : notStar e = true) (hdb : (x == Str.ofString "__debug__") = false) :
    SS c X W (.Raise (some (.Call (.Name x p) [e] [] pos)) none rpos) (fun ρ s => RS.of (g ρ s) fun us s => RS.of (RE.of (pus us) s) fun xs s => .ex k (if fl = 0 then [] else xs) s) :=
  ps_weak (L2.ps_raise hc tk (L2.pmk_oex T iC tI F hr hb (dvs := []) .nil (fun pins σ H s e s' I ⟨_, _, _, _, _, _, _, _, _, _, _, _, h⟩ => h.elim) hg hm ha hdb (star_cons hn _ _) (star_any rfl))) fun D σ H ⟨w, ρ, e, ok, er, h⟩ => by
    subst e
    refine tG.sof ok er h fun w1 us vs ok1 er1 x1 r h => ?_
    obtain ⟨rs, hl⟩ := r
    obtain ⟨xs, e1, h⟩ := h.sof
    have rd := rs.pus e1
    have hl' : vs.length = 1 := hl
    rw [if_neg (by omega)] at h
    match vs, xs, rd, hl' with
    | [y], [z], .cons rz .nil, _ =>
      refine ⟨by simp, fun b hb' => ⟨b, y, rfl, L2.upd_same, fun dx hdx hne => ⟨rfl, dx, [(f, y)], L2.upd_same, ?_, ?_, ?_⟩⟩⟩
      · rw [L2.upd_ne hne, L2.upd_same]
      · rw [L2.upd_ne hne] at hdx; exact hdx
      · have h1 : w1.H dx = none := by rw [L2.upd_ne hne] at hdx; exact hdx
        have eH : L2.upd (L2.del (L2.upd (L2.upd (L2.upd w1.H b (L2.exo b (c.ca k) none)) dx (L2.exd dx [(f, y)])) b (L2.exo b (c.ca k) (some dx))) b) dx (.xd [(f, y)]) = L2.upd w1.H dx (.xd [(f, y)]) := by
          funext q
          by_cases q1 : q = dx
          · subst q1; rw [L2.upd_same, L2.upd_same]
          · rw [L2.upd_ne q1, L2.upd_ne q1]
            by_cases q2 : q = b
            · subst q2; rw [L2.del_same]; exact hb'.symm
            · rw [L2.del_ne q2, L2.upd_ne q2, L2.upd_ne q1, L2.upd_ne q2]
        rw [eH]
        have okv := w1.val_ok (o := .xd [(f, y)]) ok1 h1
        have xv := w1.val_ext (o := .xd [(f, y)]) ok1 h1
        refine h (w1.val dx (.xd [(f, y)])) _ _ rfl okv xv ⟨rfl, hx, ?_⟩
        rw [if_neg (by rw [hfl]; simp)]
        exact ⟨dx, [(f, y)], rfl, L2.upd_same, (w1.val_free ok1 h1).2, by rw [hfl]; rfl, .cons (rz.mono xv.keeps) .nil⟩
theorem putF_len {f : Str} {v : V} : ∀ {fs : List (Str × V)} {l : List Str} {n j : Nat}, fs.map (·.1) = l.take n → n ≤ l.length → l.Nodup → l[j]? = some f → j < n → (L2.putF f v fs).map (·.1) = fs.map (·.1) ∧ (L2.putF f v fs).map (·.2) = (fs.map (·.2)).set j v := by
  intro fs
  induction fs with
  | nil => intro l n j h1 h2 nd h3 h4; cases n with
    | zero => omega
    | succ n => cases l with
      | nil => simp at h3
      | cons => simp at h1
  | cons p fs ih =>
    intro l n j h1 h2 nd h3 h4
    obtain ⟨a, b⟩ := p
    cases l with
    | nil => simp at h3
    | cons y l =>
      cases n with
      | zero => omega
      | succ n =>
        rw [List.map_cons, List.take_succ_cons] at h1
        injection h1 with e1 e2
        have e1 : a = y := e1
        rw [List.nodup_cons] at nd
        rw [L2.putF]
        cases j with
        | zero =>
          have : y = f := by simpa using h3
          rw [if_pos (by rw [e1, this])]
          exact ⟨rfl, rfl⟩
        | succ j =>
          rw [List.getElem?_cons_succ] at h3
          have ne : a ≠ f := fun q => nd.1 (by rw [← e1, q]; exact List.mem_of_getElem? h3)
          rw [if_neg ne]
          obtain ⟨g1, g2⟩ := ih e2 (by simpa using h2) nd.2 h3 (by omega)
          exact ⟨by rw [List.map_cons, List.map_cons, g1], by rw [List.map_cons, List.map_cons, g2]; rfl⟩
theorem putF_new {f : Str} {v : V} : ∀ {fs : List (Str × V)} {l : List Str} {n : Nat}, fs.map (·.1) = l.take n → l.Nodup → l[n]? = some f → (L2.putF f v fs).map (·.1) = l.take (n + 1) ∧ (L2.putF f v fs).map (·.2) = fs.map (·.2) ++ [v] := by
  intro fs
  induction fs with
  | nil => intro l n h1 nd h3; cases n with
    | zero => cases l with
      | nil => simp at h3
      | cons y l => simp at h3; subst h3; exact ⟨rfl, rfl⟩
    | succ n => cases l with
      | nil => simp at h3
      | cons => simp at h1
  | cons p fs ih =>
    intro l n h1 nd h3
    obtain ⟨a, b⟩ := p
    cases l with
    | nil => simp at h3
    | cons y l =>
      cases n with
      | zero => simp at h1
      | succ n =>
        rw [List.map_cons, List.take_succ_cons] at h1
        injection h1 with e1 e2
        have e1 : a = y := e1
        rw [List.nodup_cons] at nd
        rw [List.getElem?_cons_succ] at h3
        have ne : a ≠ f := fun q => nd.1 (by rw [← e1, q]; exact List.mem_of_getElem? h3)
        rw [L2.putF, if_neg ne]
        obtain ⟨g1, g2⟩ := ih e2 nd.2 h3
        exact ⟨by rw [List.map_cons, g1, List.take_succ_cons]; exact congrArg (· :: _) e1, by rw [List.map_cons, g2]; rfl⟩
theorem OutS.upd {α : Type} {w : Wd} {u : U} {v : V} {f : Cell → Option Cell} {oks : List U} {k : Unit → Stk → RS} (ok : OkW c w) (r : RU c w u v)
    (h : OutS c W D w (RS.of (updC w.s u f oks) k)) : ∃ g i a k0 k', u = .r g i ∧ v = .ref a ∧ getL w.ι g i = some a ∧ getL w.s.rs g i = some k0 ∧ (g, i) ∉ w.s.lk ∧ f k0 = some k' ∧ oks.all (U.below g) = true ∧ OutS c W D w (k () (w.s.set g i k')) := by
  rcases updC_ok (s := w.s) (u := u) (f := f) (oks := oks) with ⟨g, i, k0, k', rfl, h1, h2, h3, h4, h5⟩ | e
  · obtain ⟨a, rfl, ea⟩ := r.cell
    rw [h5] at h
    exact ⟨g, i, a, k0, k', rfl, rfl, ea, h1, h2, h3, h4, h⟩
  · rw [e] at h; exact h.elim
theorem ss_setfld (hK : X.K = c.K) {k j : Nat} {fn : Str} {o e : Expr} {pos pos' : PySem.Pos} {f g : Env → Stk → RE U} (ho : SE c X W o f) (he : SE c X W e g) (hs : PySem.swapsWith e (some (o.Attribute fn pos')) pos.line X.env = pure false)
    (h1 : L2.Cls c.K (c.ca k)) (h2 : L2.NoAttr c.K (c.ca k) fn) (h3 : (c.fl k).Nodup) (h4 : (c.fl k)[j]? = some fn) (h5 : (c.fl k).length < 1000) :
    SS c X W (.Assign [o.Attribute fn pos'] e pos) (fun ρ s => RS.of (g ρ s) fun v s => RS.of (f ρ s) fun x s => RS.of (updC s x (setfldC k j v) [v]) fun _ s => .nx ρ s) :=
  ps_weak (L2.ps_fld ho he hs) fun D σ H ⟨w, ρ, e, ok, er, h⟩ => by
    subst e
    refine tG.sof ok er h fun w1 v vv ok1 er1 x1 rv h => tG.sof ok1 er1 h fun w2 u uu ok2 er2 x2 ru h => ?_
    have rv := rv.mono x2
    obtain ⟨g, i, a, k0, k', rfl, rfl, ha, hk, nl, hf, hb, h⟩ := h.upd (α := Nat) ok2 ru
    cases k0 with
    | ins k1 us =>
      simp only [setfldC] at hf
      split at hf
      · rename_i ek
        subst ek
        obtain ⟨dx, fs, q1, q2, q3, q4⟩ := ok2.cell g i a _ ha hk
        have hl : us.length = fs.length := by have := q4.length; simpa using this
        refine ⟨a, c.ca k1, dx, fs, rfl, q1, by rw [hK]; exact h1, by rw [hK]; exact h2, by omega, ?_⟩
        have low := ok2.low g i _ hk
        have hbv : U.below g v = true := by simpa using hb
        split at hf
        · rename_i hj
          cases hf
          obtain ⟨g1, g2⟩ := putF_len (v := vv) q2 q3 h3 h4 hj
          obtain ⟨ok3, x3⟩ := put_all (o := .ins (c.ca k1) dx (L2.putF fn vv fs)) (k := .ins k1 (us.set j v)) ok2 ha hk (by simp) nl (fun w' x e => ⟨dx, _, e, by rw [g1, q2, List.length_set], by rw [List.length_set]; exact q3, by rw [g2]; exact (q4.mono x).set (rv.mono x) j⟩) (fun u hu => by
            have := List.mem_or_eq_of_mem_set hu
            rcases this with hu | rfl
            · exact low u hu
            · exact hbv)
          exact h _ σ rfl ok3 x3 (er2.mono x3)
        · split at hf
          · rename_i hj
            cases hf
            obtain ⟨g1, g2⟩ := putF_new (v := vv) q2 h3 (by rw [← hj]; exact h4)
            obtain ⟨ok3, x3⟩ := put_all (o := .ins (c.ca k1) dx (L2.putF fn vv fs)) (k := .ins k1 (us ++ [v])) ok2 ha hk (by simp) nl (fun w' x e => ⟨dx, _, e, by rw [g1, List.length_append]; rfl, by
                have := (List.getElem?_eq_some_iff.mp h4).1
                rw [List.length_append]; simp; omega, by rw [g2]; exact (q4.mono x).append (.cons (rv.mono x) .nil)⟩) (fun u hu => by
              rcases List.mem_append.mp hu with hu | hu
              · exact low u hu
              · simp at hu; subst hu; exact hbv)
            exact h _ σ rfl ok3 x3 (er2.mono x3)
          · cases hf
      · cases hf
    | _ => simp [setfldC] at hf
end
end Z
end

section
set_option autoImplicit false
set_option linter.all false
set_option maxRecDepth 100000
namespace Z
open PySem (Str sizeLine Value Addr PyData Expr)
open L2 (V HO Hp Key Cx)
def notSlice : Expr → Bool
  | .Slice _ _ _ _ => false
  | _ => true
theorem plainIx {e : Expr} (h : notSlice e = true) : L2.PlainIx e := fun o i => by
  cases e <;> first | rfl | cases h
theorem ps_or2 {X : Cx} {e : PySem.Stmt} {t u : L2.TS} (h : L2.PS X e t) (k : L2.PS X e u) : L2.PS X e (fun D σ H => t D σ H ∨ u D σ H) := ⟨fun pins s σ H D I q => q.elim (h.run pins s σ H D I) (k.run pins s σ H D I)⟩
section
variable {c : Cfg} {X : Cx} {W : L2.XK} {D : L2.Ends}
theorem OutS.ofE {α β : Type} {w : Wd} {R : Wd → α → β → Prop} {x : RE α} {f : α → Stk → RS} {N : β → Hp → Prop} (h : OutS c W D w (RS.of x f))
    (n : ∀ (w1 : Wd) (u : α) (v : β), OkW c w1 → Ext w w1 → R w1 u v → x = .ok u w1.s → OutS c W D w1 (f u w1.s) → N v w1.H) : OutE c W w R x N := by
  cases x with
  | ok u s' => exact fun w' v e ok x' r => n w' u v ok x' r (by rw [e]) (by rw [e]; exact OutS.mono x' h)
  | ex k vs s' => exact h
  | no => exact h
theorem tG.sofE {α β : Type} {R : Wd → α → β → Prop} {w : Wd} {ρ : Env} {σ : L2.St} {x : Env → Stk → RE α} {f : α → Stk → RS} {N : β → Hp → Prop}
    (ok : OkW c w) (er : EnvR c w ρ σ) (h : OutS c W D w (RS.of (x ρ w.s) f))
    (n : ∀ (w1 : Wd) (u : α) (v : β), OkW c w1 → EnvR c w1 ρ σ → Ext w w1 → R w1 u v → x ρ w.s = .ok u w1.s → OutS c W D w1 (f u w1.s) → N v w1.H) : tG c W R x σ w.H N :=
  ⟨w, ρ, rfl, ok, er, h.ofE fun w1 u v ok1 x1 r e q => n w1 u v ok1 (er.mono x1) x1 r e q⟩
def isDC (s : Stk) : U → Bool
  | .r g i => match getL s.rs g i with
    | some (.dct _ _) => true
    | _ => false
  | _ => false
theorem ss_setix (hu : Rm X) {o i e : Expr} {pos pos' : PySem.Pos} {f g k : Env → Stk → RE U} (ho : SE c X W o f) (hi : SE c X W i g) (he : SE c X W e k) (hn : notSlice i = true) (hnn : notStar e = true)
    (hs : PySem.swapsWith e (some (o.Subscript i pos')) pos.line X.env = pure false) (hw : PySem.swappedStores [o.Subscript i pos'] e X.env = pure none) :
    SS c X W (.Assign [o.Subscript i pos'] e pos) (fun ρ s => RS.of (k ρ s) fun v s => RS.of (f ρ s) fun x s => RS.of (g ρ s) fun y s => RS.of (updC s x (setixC y v) [v]) fun _ s => .nx ρ s) :=
  ps_weak (ps_or2 (L2.ps_asg he (L2.pg_sub ho hi L2.set_list (fun v => by cases i <;> first | rfl | cases hn)) hs hw (by rw [assign_cons rfl]; rfl)) (L2.ps_dput (by have : X.A.units + 150 < PySem.cLine := hu; omega) ho hi he hs)) fun D σ H ⟨w, ρ, e, ok, er, h⟩ => by
    subst e
    by_cases hd : ∃ v s1 x s2 y s3, k ρ w.s = .ok v s1 ∧ f ρ s1 = .ok x s2 ∧ g ρ s2 = .ok y s3 ∧ isDC s3 x = true
    · obtain ⟨v, s1, x, s2, y, s3, d1, d2, d3, d4⟩ := hd
      refine .inr (tG.sofE ok er h fun w1 v' vv ok1 er1 x1 rv ee h => tG.sofE ok1 er1 h fun w2 u uu ok2 er2 x2 ru ee2 h => tG.sofE ok2 er2 h fun w3 y' yy ok3 er3 x3 ry ee3 h => ?_)
      rw [d1] at ee
      injection ee with ea eb
      subst ea eb
      rw [d2] at ee2
      injection ee2 with ea eb
      subst ea eb
      rw [d3] at ee3
      injection ee3 with ea eb
      subst ea eb
      obtain ⟨gg, ii, a, k0, k', rfl, rfl, ha, hk, nl, hf, hb, h⟩ := h.upd (α := Nat) ok3 (ru.mono x3)
      unfold isDC at d4
      simp only [hk] at d4
      cases k0 with
      | dct ks us =>
        simp only [setixC] at hf
        cases ek : kyOf y with
        | none => rw [ek] at hf; cases hf
        | some kk =>
          rw [ek] at hf
          simp only at hf
          split at hf
          · rename_i hl
            cases hf
            obtain ⟨kvs, q1, q2, q3, q4, q5⟩ := ok3.cell gg ii a _ ha hk
            obtain rfl := kyOf_ok ry ek
            have rv := (rv.mono x2).mono x3
            obtain ⟨g1, g2, g3, g4⟩ := putK_rel (k := kk) rv q3 q4 q5
            have hl2 : kvs.length < sizeLine := by have := congrArg List.length q3; simp only [List.length_map] at this; rw [this, ← big_line]; exact hl
            have hkl : ks.length = us.length := by have := congrArg List.length q3; have q := q5.length; simp only [List.length_map] at this q; omega
            obtain ⟨ok4, x4⟩ := put_all (o := .dK (L2.putK kvs (kOf kk) vv)) (k := .dct (putK ks us kk v).1 (putK ks us kk v).2) ok3 ha hk (by simp) nl (fun w' x e => ⟨_, e, by omega, g1, g2, g3.mono x⟩) (fun u hu => by
              have low := ok3.low gg ii _ hk
              have hbv : U.below gg v = true := by simpa using hb
              have : ∀ {ks : List Ky} {us : List U}, ks.length = us.length → u ∈ (putK ks us kk v).2 → u ∈ us ∨ u = v := by
                intro ks
                induction ks with
                | nil => intro us hh hm; cases us with
                  | nil => simp [putK] at hm; exact .inr hm
                  | cons => cases hh
                | cons k0 ks ih => intro us hh hm; cases us with
                  | nil => cases hh
                  | cons u0 us =>
                    rw [putK] at hm
                    split at hm
                    · rcases List.mem_cons.mp hm with hm | hm
                      · exact .inr hm
                      · exact .inl (List.mem_cons_of_mem _ hm)
                    · rcases List.mem_cons.mp hm with hm | hm
                      · exact .inl (hm ▸ List.mem_cons_self ..)
                      · exact (ih (by simpa using hh) hm).imp (List.mem_cons_of_mem _) id
              rcases this hkl hu with hu | rfl
              · exact low u hu
              · exact hbv)
            exact ⟨a, _, rfl, .inl ⟨kvs, kOf kk, q1, rfl, hl2, rfl⟩, h _ σ rfl ok4 x4 (er3.mono x4)⟩
          · cases hf
      | _ => cases d4
    · refine .inl (tG.sofE ok er h fun w1 v vv ok1 er1 x1 rv ee h => tG.sofE ok1 er1 h fun w2 x uu ok2 er2 x2 ru ee2 h => tG.sofE ok2 er2 h fun w3 y yy ok3 er3 x3 ry ee3 h => ?_)
      obtain ⟨gg, ii, a, k0, k', rfl, rfl, ha, hk, nl, hf, hb, h⟩ := h.upd (α := Nat) ok3 (ru.mono x3)
      cases k0 with
      | lst xs =>
        simp only [setixC] at hf
        split at hf
        · rename_i j
          rw [Option.map_eq_some_iff] at hf
          obtain ⟨n, hn', rfl⟩ := hf
          obtain ⟨vs, q1, q2, q3⟩ := ok3.cell gg ii a _ ha hk
          obtain rfl := asInt_ok ry rfl
          have rv := (rv.mono x2).mono x3
          obtain ⟨ok4, x4⟩ := put_all (o := .lst (vs.set n vv)) (k := .lst (xs.set n v)) ok3 ha hk (by simp) nl (fun w' x e => ⟨_, e, by rw [List.length_set]; exact q2, (q3.mono x).set (rv.mono x) n⟩) (fun u hu => by
            rcases List.mem_or_eq_of_mem_set hu with hu | rfl
            · exact ok3.low gg ii _ hk u hu
            · simpa using hb)
          exact ⟨a, vs, j, n, rfl, rfl, q1, by rw [← ixN_eq, ← q3.length]; exact hn', h _ σ rfl ok4 x4 (er3.mono x4)⟩
        · cases hf
      | dct ks us => exact absurd ⟨v, _, _, _, y, _, ee, ee2, ee3, by unfold isDC; simp only [hk]⟩ hd
      | _ => simp [setixC] at hf
/-! ### caught errors -/
structure ExF (c : Cfg) (G : Pg) (ds : List Nat) : Prop where
  xf : ∀ k ∈ c.xs, L2.XfC c.K (c.ca k)
  ec : ∀ k ∈ c.xs, L2.ExcC c.K (c.ca k)
  no : ∀ k ∈ c.xs, ∀ f ∈ c.fl k, PySem.W.findIn c.K (.ref (c.ca k)) f = some none
  nd : ∀ k ∈ c.xs, (c.fl k).Nodup
  ne : ∀ k ∈ c.xs, c.fl k ≠ []
  sub : ∀ k ∈ c.xs, ∀ d ∈ ds, PySem.W.exmOne c.K (.ref (c.ca k)) (.ref (c.ca d)) = some (G.sub k d) ∧ PySem.W.kitOne c.K (.ref (c.ca k)) (.ref (c.ca d)) = some (G.sub k d)
  subV : ∀ k ∈ c.xs, PySem.W.kitOne c.K (.ref (c.ca k)) (.type "ValueError") = some true
/-- within a suite: the error k with its fields -/
structure InSu (c : Cfg) (w : Wd) (σ : L2.St) (H : Hp) (i : Nat) (a : Addr) (k : Nat) (vs : List Z.D) (cls : Value) (d : Option Addr) : Prop where
  h : w.H = H
  ok : OkW c w
  rx : RX c w k vs cls d
  at_ : σ[i]? = some (some (.ref a))
variable {G : Pg} {ds : List Nat} {i : Nat} {a : Addr} {oe : PySem.Obj} {cls : Value} {d : Option Addr} {pn : List (Addr × PySem.Obj)}
def suE (c : Cfg) (i : Nat) (a : Addr) (cls : Value) (d : Option Addr) (e : XE) : L2.TE := fun σ H Q => ∃ w k vs y, InSu c w σ H i a k vs cls d ∧ evXE k vs e = some y ∧ ∀ w' v, w'.s = w.s → OkW c w' → Ext w w' → RU c w' (.d y) v → Q v w'.H
def suEs (c : Cfg) (i : Nat) (a : Addr) (cls : Value) (d : Option Addr) (es : List XE) : L2.TA := fun σ H Q => ∃ w k vs ys, InSu c w σ H i a k vs cls d ∧ evXEs k vs es = some ys ∧ ∀ w' v, w'.s = w.s → OkW c w' → Ext w w' → RUs c w' (ys.map .d) v → Q v w'.H
def suT (c : Cfg) (G : Pg) (i : Nat) (a : Addr) (cls : Value) (d : Option Addr) (b : Z.X) : L2.TT := fun σ H Q => ∃ w k vs, InSu c w σ H i a k vs cls d ∧ Q (evX G k b) H
theorem RX.mono {w w' : Wd} {k : Nat} {vs : List Z.D} {cls : Value} {dx : Option Addr} (x : Ext w w') (h : RX c w k vs cls dx) : RX c w' k vs cls dx := by
  obtain ⟨h1, hx, h2⟩ := h
  refine ⟨h1, hx, ?_⟩
  split at h2
  · rename_i e; rw [if_pos e]; exact h2
  · rename_i e
    rw [if_neg e]
    obtain ⟨dd, fs, q1, q2, q3, q4, q5⟩ := h2
    exact ⟨dd, fs, q1, (x.keep dd _ q2 q3).1, (x.keep dd _ q2 q3).2, q4, q5.mono x.keeps⟩
theorem su_lit {e : Expr} {y : Z.D} {v : V} (h : ∀ X : Cx, L2.PE X e (L2.tC v)) (r : ∀ (w : Wd), RD c w.H (Live w) y v) : L2.PE (X.suite a pn) e (suE c i a cls d (.lit y)) :=
  pe_weak (h _) fun σ H Q ⟨w, k, vs, z, s, e, q⟩ => by
    rw [evXE] at e; cases e
    rw [← s.h]
    exact q w v rfl s.ok (.refl w) (.d (r w))
theorem su_fld (hK : X.K = c.K) (F : ExF c G ds) {kk j : Nat} {n f : Str} {np pos : PySem.Pos} (hkk : kk ∈ c.xs) (hN : X.N[i]? = some n) (hv : L2.Vis X.env.scope n) (hd : (n == Str.ofString "__debug__") = false) (hcd : (n == Str.ofString "__classdict__") = false) (hj : (c.fl kk)[j]? = some f)
    (hz : L2.Zc cls d oe) (hf : ∃ vs, oe.data = .fields vs) : L2.PE (X.suite a ((a, oe) :: pn)) (.Attribute (.Name n np) f pos) (suE c i a cls d (.fld kk j)) :=
  pe_weak (L2.pe_xf (C := c.ca kk) (by rw [hK]; exact F.xf kk hkk) (by rw [hK]; exact F.no kk hkk f (List.mem_of_getElem? hj)) hz hf (L2.pe_var (X := X.suite a ((a, oe) :: pn)) hN hv hd hcd) rfl) fun σ H Q ⟨w, k, vs, y, s, e, q⟩ => by
    rw [evXE] at e
    split at e
    · rename_i ek
      subst ek
      obtain ⟨h1, hx, h2⟩ := s.rx
      rw [if_neg (F.ne k hx)] at h2
      obtain ⟨dd, fs, q1, q2, q3, q4, q5⟩ := h2
      obtain ⟨v, q6, r⟩ := (RUs.of_d q5).get (by rw [List.getElem?_map, e]; rfl : (vs.map U.d)[j]? = some (.d y))
      have hfs : fs.map (·.1) = (c.fl k).take (c.fl k).length := by rw [List.take_length]; exact q4
      exact ⟨.ref a, s.at_, rfl, h1, dd, fs, v, q1, by rw [← s.h]; exact q2, look_fs hfs (F.nd k hx) hj q6, by rw [← s.h]; exact q w v rfl s.ok (.refl w) r⟩
    · cases e
theorem su_nil : L2.PA (X.suite a pn) [] (suEs c i a cls d []) := pa_weak L2.pa_nil fun σ H Q ⟨w, k, vs, ys, s, e, q⟩ => by
  rw [evXEs] at e; cases e
  rw [← s.h]
  exact q w [] rfl s.ok (.refl w) .nil
theorem su_cons {e : Expr} {es : List Expr} {x : XE} {xs : List XE} (h : L2.PE (X.suite a pn) e (suE c i a cls d x)) (hs : L2.PA (X.suite a pn) es (suEs c i a cls d xs)) (hn : notStar e = true) : L2.PA (X.suite a pn) (e :: es) (suEs c i a cls d (x :: xs)) :=
  pa_weak (L2.pa_cons h hs (star_cons hn _ _)) fun σ H Q ⟨w, k, vs, ys, s, e, q⟩ => by
    rw [evXEs] at e
    rw [Option.bind_eq_some_iff] at e
    obtain ⟨y, e1, e⟩ := e
    rw [Option.map_eq_some_iff] at e
    obtain ⟨zs, e2, rfl⟩ := e
    refine ⟨w, k, vs, y, s, e1, fun w1 v es ok1 x1 r1 => ⟨w1, k, vs, zs, ⟨rfl, ok1, s.rx.mono x1, s.at_⟩, e2, fun w2 v2 es2 ok2 x2 r2 => q w2 _ (es2.trans es) ok2 (x1.trans x2) (.cons (r1.mono x2) r2)⟩⟩
theorem RUs.to_d {w : Wd} : ∀ {ys : List Z.D} {vs : List V}, RUs c w (ys.map .d) vs → RDs c w.H (Live w) ys vs
  | [], vs, h => by cases h; exact .nil
  | y :: ys, vs, h => by
    cases h with
    | cons h r =>
      cases h with
      | d h => exact .cons h (RUs.to_d r)
theorem su_tup {es : List Expr} {xs : List XE} {kk : Nat} {pos : PySem.Pos} (h : L2.PA (X.suite a pn) es (suEs c i a cls d xs)) (hz : xs.length ≤ sizeLine) : L2.PE (X.suite a pn) (.Tuple es kk pos) (suE c i a cls d (.tup xs)) :=
  pe_weak (L2.pe_tup h) fun σ H Q ⟨w, k, vs, y, s, e, q⟩ => by
    rw [evXE, Option.map_eq_some_iff] at e
    obtain ⟨ys, e, rfl⟩ := e
    have hl : ∀ (xs : List XE) (ys : List Z.D), evXEs k vs xs = some ys → ys.length = xs.length := by
      intro xs
      induction xs with
      | nil => intro ys e; rw [evXEs] at e; cases e; rfl
      | cons x xs ih =>
        intro ys e
        rw [evXEs, Option.bind_eq_some_iff] at e
        obtain ⟨y, e1, e⟩ := e
        rw [Option.map_eq_some_iff] at e
        obtain ⟨zs, e2, rfl⟩ := e
        rw [List.length_cons, List.length_cons, ih zs e2]
    refine ⟨w, k, vs, ys, s, e, fun w1 us es ok1 x1 r => ?_⟩
    have hl2 : us.length ≤ sizeLine := by have := r.length; rw [List.length_map, hl xs ys e] at this; omega
    refine ⟨hl2, fun p hp => ?_⟩
    have x := w1.val_ext (o := .tup us) ok1 hp
    exact q (w1.val p (.tup us)) (.ref p) es (w1.val_ok ok1 hp) (x1.trans x) (.d (.tup (.inl ⟨.inl L2.upd_same, (w1.val_free ok1 hp).2⟩) hl2 (r.to_d.mono x.keeps)))
end
end Z
end

section
set_option autoImplicit false
set_option linter.all false
set_option maxRecDepth 100000
namespace Z
open PySem (Str sizeLine Value Addr PyData Expr)
open L2 (V HO Hp Key Cx)
section
variable {c : Cfg} {X : Cx} {W : L2.XK} {D : L2.Ends} {G : Pg} {ds : List Nat} {i : Nat} {a : Addr} {oe : PySem.Obj} {cls : Value} {d : Option Addr} {pn : List (Addr × PySem.Obj)}
theorem su_isV (hK : X.K = c.K) (F : ExF c G ds) {b : Z.X} {cv : Value} {v : V} {tv : Expr} {n : Str} {np p pos : PySem.Pos} (hN : X.N[i]? = some n) (hv : L2.Vis X.env.scope n) (hd : (n == Str.ofString "__debug__") = false) (hcd : (n == Str.ofString "__classdict__") = false)
    (hg : L2.Gl X (Str.ofString "isinstance")) (hm : X.mg (Str.ofString "isinstance") = none) (hz : L2.Zc cls d oe) (hf : ∃ vs, oe.data = .fields vs)
    (hT : L2.PE (X.suite a ((a, oe) :: pn)) tv (L2.tC v)) (hn : notStar tv = true) (hcv : ∀ u, L2.RelV v u → u = cv) (hb : ∀ k ∈ c.xs, PySem.W.kitOne c.K (.ref (c.ca k)) cv = some (evX G k b)) :
    L2.PT (X.suite a ((a, oe) :: pn)) (.Call (.Name (Str.ofString "isinstance") p) [.Name n np, tv] [] pos) (suT c G i a cls d b) := by
  by_cases hk : ∃ k ∈ c.xs, cls = .ref (c.ca k)
  · obtain ⟨k, hk, rfl⟩ := hk
    cases d with
    | none =>
      refine ⟨fun pins s σ H Q I q => ?_⟩
      obtain ⟨w, k', vs, s, q⟩ := q
      obtain ⟨h1, hx, h2⟩ := s.rx
      rw [if_neg (F.ne k' hx)] at h2
      obtain ⟨dd, fs, q1, _⟩ := h2
      cases q1
    | some dd =>
      have hE : L2.ExcC X.K (c.ca k) := by rw [hK]; exact F.ec k hk
      refine pt_weak (L2.pt_truth (L2.pe_callB (call_isX hE hz hf) hg hm (by decide +kernel) (L2.pa_cons (L2.pe_var (X := X.suite a ((a, oe) :: pn)) hN hv hd hcd) (L2.pa_cons hT L2.pa_nil (star_cons hn _ _)) (star_cons rfl _ _)) (by decide +kernel) (by decide +kernel) (star_cons rfl _ _) (star_any (by simp [hn]))) (fun _ => rfl)) fun σ H Q ⟨w, k', vs, s, q⟩ => ?_
      obtain ⟨h1, hx, h2⟩ := s.rx
      have e : c.ca k = c.ca k' := by injection h1
      rw [if_neg (F.ne k' hx)] at h2
      obtain ⟨dd', fs, q1, q2, _⟩ := h2
      cases q1
      refine ⟨.ref a, s.at_, v, cv, evX G k' b, fs, rfl, hcv, ?_, by rw [← s.h]; exact q2, evX G k' b, rfl, q⟩
      show PySem.W.kitOne X.K _ _ = _
      rw [hK, e]
      exact hb k' hx
  · refine ⟨fun pins s σ H Q I q => ?_⟩
    obtain ⟨w, k', vs, s, q⟩ := q
    obtain ⟨h1, hx, h2⟩ := s.rx
    exact absurd ⟨k', hx, h1⟩ hk
theorem su_not {e : Expr} {b : Z.X} {pos : PySem.Pos} (h : L2.PT (X.suite a pn) e (suT c G i a cls d b)) : L2.PT (X.suite a pn) (.UnaryOp .Not e pos) (suT c G i a cls d (.not b)) :=
  pt_weak (L2.pt_not h) fun σ H Q ⟨w, k, vs, s, q⟩ => ⟨w, k, vs, s, q⟩
theorem su_or {e e2 : Expr} {rest : List Expr} {b b2 : Z.X} {pos : PySem.Pos} (h : L2.PT (X.suite a pn) e (suT c G i a cls d b)) (h2 : L2.PW (X.suite a pn) (.BoolOp .Or (e2 :: rest) pos) (suT c G i a cls d b2)) : L2.PW (X.suite a pn) (.BoolOp .Or (e :: e2 :: rest) pos) (suT c G i a cls d (.or b b2)) :=
  pw_weak (L2.pw_or h h2) fun σ H Q ⟨w, k, vs, s, q⟩ => ⟨w, k, vs, s, by
    rw [evX] at q
    cases e : evX G k b with
    | true => rw [e] at q; rw [if_pos rfl]; exact q
    | false => rw [e] at q; rw [if_neg (by decide)]; exact ⟨w, k, vs, s, q⟩⟩
theorem su_or1 {e : Expr} {b : Z.X} {pos : PySem.Pos} (h : L2.PT (X.suite a pn) e (suT c G i a cls d b)) : L2.PW (X.suite a pn) (.BoolOp .Or [e] pos) (suT c G i a cls d b) := L2.pw_or1 h
def tSu (c : Cfg) (G : Pg) (i : Nat) (a : Addr) (cls : Value) (d : Option Addr) (sus : List Su) : L2.TS := fun D σ H => ∃ w k vs x, InSu c w σ H i a k vs cls d ∧ evSu G k vs sus = some (some x) ∧ ∀ w' v, w'.s = w.s → OkW c w' → Ext w w' → RU c w' (.d x) v → D.rt v w'.H
theorem sus_nil : L2.PSs (X.suite a pn) [] (tSu c G i a cls d []) := pss_weak L2.pss_nil fun D σ H ⟨w, k, vs, x, s, e, q⟩ => by rw [evSu] at e; cases e
theorem sus_ret {e : Expr} {x : XE} {rest : List PySem.Stmt} {sus : List Su} {pos : PySem.Pos} (h : L2.PE (X.suite a pn) e (suE c i a cls d x)) : L2.PSs (X.suite a pn) (.Return (some e) pos :: rest) (tSu c G i a cls d (.ret x :: sus)) :=
  pss_weak (L2.pss_cons (L2.ps_ret h) L2.pss_never) fun D σ H ⟨w, k, vs, y, s, e, q⟩ => by
    rw [evSu, Option.map_eq_some_iff] at e
    obtain ⟨z, e, ez⟩ := e
    cases ez
    exact ⟨w, k, vs, _, s, e, q⟩
theorem sus_ifr {p e : Expr} {b : Z.X} {x : XE} {rest : List PySem.Stmt} {sus : List Su} {pos pos2 : PySem.Pos} (hp : L2.PT (X.suite a pn) p (suT c G i a cls d b)) (h : L2.PE (X.suite a pn) e (suE c i a cls d x)) (hr : L2.PSs (X.suite a pn) rest (tSu c G i a cls d sus)) :
    L2.PSs (X.suite a pn) (.If p [.Return (some e) pos2] [] pos :: rest) (tSu c G i a cls d (.ifr b x :: sus)) :=
  pss_weak (L2.pss_cons (L2.ps_if hp (L2.pss_one (L2.ps_ret h)) L2.pss_nil) hr) fun D σ H ⟨w, k, vs, y, s, e, q⟩ => by
    rw [evSu] at e
    refine ⟨w, k, vs, s, ?_⟩
    cases eb : evX G k b with
    | true =>
      rw [eb, cond_true, Option.map_eq_some_iff] at e
      obtain ⟨z, e, ez⟩ := e
      cases ez
      rw [if_pos rfl]
      exact ⟨w, k, vs, _, s, e, q⟩
    | false =>
      rw [eb, cond_false] at e
      rw [if_neg (by decide)]
      exact ⟨w, k, vs, y, s, e, q⟩
theorem takes_len {Wx : L2.WX} (tk : L2.Takes X Wx) : Tk X (fun cls d H => ∀ σ : L2.St, σ.length = X.N.length → Wx cls d σ H) := fun u s' ⟨a, B, sI, pins, σ, H, cls, d, h1, h2, h3, h4, h5, h6, h7, h8, h9⟩ =>
  tk u s' ⟨a, B, sI, pins, σ, H, cls, d, h1, h2, h3, h4, h5, h6, h7, h8, h9 σ h2.len⟩
theorem ss_try1 (F : ExF c G ds) (hK : X.K = c.K) {x n : Str} {dc : Nat} {sus : List Su} {body suite : List PySem.Stmt} {b₀ : PySem.Stmt} {np pos pos' : PySem.Pos} {fb : Env → Stk → RS} (hs : X.stack = X.env :: X.outer) (hf : X.env.frame = some X.env.locals) (hN : X.N.Nodup) (hi : X.N[i]? = some n) (hk : X.env.kindOf n = some .local)
    (hdc : dc ∈ ds) (hn : L2.Names X x (.ref (c.ca dc))) (tk : Tk X W)
    (hb : ∀ (W' : L2.XK) pn xe, Tk (X.tr pn xe) W' → PySem.PassesOwn (PySem.model X.prog X.w) X.A X.env xe → SSs c (X.tr pn xe) W' body fb)
    (hsu : ∀ a oe cls d pn, L2.Zc cls d oe → (∃ vs, oe.data = .fields vs) → L2.PSs (X.suite a ((a, oe) :: pn)) (b₀ :: suite) (tSu c G i a cls d sus)) :
    SS c X W (.Try body [.ExceptHandler (some (.Name x np)) (some n) (b₀ :: suite) pos'] [] [] pos) (fun ρ s => (fb ρ s).catch G [⟨dc, i, sus⟩]) :=
  ps_weak (L2.ps_try_as (tb := fun Wx => tS c (fun cls d H => ∀ σ : L2.St, σ.length = X.N.length → Wx cls d σ H) fb) (ts := fun a cls d => tSu c G i a cls d sus) (Wout := fun cls d _ H => W cls d H) hs hf hN hi hk hn tk (fun Wx pn xe tk' hp => hb _ pn xe (takes_len tk') hp) (fun a oe cls d pn hz hf => hsu a oe cls d pn hz hf)) fun D σ H ⟨w, ρ, e, ok, er, h⟩ => by
    subst e
    refine ⟨w, ρ, rfl, ok, er, ?_⟩
    replace h : OutS c W D w ((fb ρ w.s).catch G [⟨dc, i, sus⟩]) := h
    cases e : fb ρ w.s with
    | nx ρ s => rw [e] at h; exact h
    | ret u s => rw [e] at h; exact h
    | brk ρ s => rw [e] at h; exact h
    | cnt ρ s => rw [e] at h; exact h
    | no => rw [e] at h; exact h
    | ex k vs s =>
      rw [e] at h
      intro w' cls dx e' ok' x' rx σ' hl
      obtain ⟨h1, hx, h2⟩ := rx
      refine ⟨G.sub k dc, by rw [hK, h1]; exact (F.sub k hx dc hdc).1, fun eb => ?_, fun eb => ?_⟩
      · intro a ha
        replace h : OutS c W D w (cond (G.sub k dc) (match evSu G k vs sus with | some (some x) => .ret (.d x) s | _ => .no) (.ex k vs s)) := h
        rw [eb, cond_true] at h
        split at h
        · rename_i y ey
          refine ⟨w', k, vs, y, ⟨rfl, ok', ⟨h1, hx, h2⟩, ?_⟩, ey, fun w2 v es ok2 x2 r => h w2 v (es.trans e') ok2 (x'.trans x2) r⟩
          rw [List.getElem?_set_self (by rw [hl]; exact (List.getElem?_eq_some_iff.mp hi).1)]
        · exact h.elim
      · replace h : OutS c W D w (cond (G.sub k dc) (match evSu G k vs sus with | some (some x) => .ret (.d x) s | _ => .no) (.ex k vs s)) := h
        rw [eb, cond_false] at h
        exact h w' cls dx e' ok' x' ⟨h1, hx, h2⟩
end
end Z
end

section
set_option autoImplicit false
set_option linter.all false
set_option maxRecDepth 100000
namespace Z
open PySem (Str sizeLine Value Addr PyData Expr Scope)
open L2 (V HO Hp Key Cx)
/-- the names of the program -/
structure Tb where
  fns : List (Str × Nat)
  cls : List (Str × Nat)
  con : List (Str × Nat)
  mts : List (Str × Nat)
  xcs : List (Str × Nat)
  fl : Nat → List Str
  /-- the errors that are raised, their fields -/
  rse : List Nat
  xf : Nat → List Str
structure Mc where
  sc : Scope
  N : List Str
  fn : Str → Bool
def okN (id : Str) : Bool := !(id == Str.ofString "__debug__") && !(id == Str.ofString "__classdict__")
def isVis (sc : Scope) (x : Str) : Bool := sc.names.lookup x == some .local || sc.names.lookup x == some .cell || sc.names.lookup x == some .free
def isLoc (M : Mc) (x : Str) : Bool := (M.sc.names.lookup x == some .local || M.sc.names.lookup x == some .cell) && (M.fn x || M.sc.names.lookup x == some .local)
def isGl (sc : Scope) (x : Str) : Bool := sc.names.lookup x == some .globalImplicit
def mVar (M : Mc) (i : Nat) (id : Str) : Bool := M.N[i]? == some id && isVis M.sc id && okN id
def mLit : D → PySem.Const → Bool
  | .non, .none => true
  | .bl b, .bool b' => b == b'
  | .int i, .int j => i == j
  | .str x, .str y => sOf x == y && decide (x.length ≤ 16777216)
  | _, _ => false
def bfV : Bf → String
  | .len => "len" | .all => "all" | .any => "any" | .sum => "sum" | .min1 => "min" | .max1 => "max" | .min2 => "min" | .max2 => "max" | .sorted => "sorted" | .abs => "abs"
def btV : Bt → String
  | .list => "list" | .tuple => "tuple" | .int => "int" | .str => "str" | .bool => "bool"
def btOk : Bt → Bool
  | .str => false
  | _ => true
def bmV : Bm → String
  | .append => "append" | .extend => "extend" | .index => "index" | .get1 => "get" | .get2 => "get" | .join => "join" | _ => ""
def okBase : Expr → Bool
  | .Call (.Name id _) [] [] _ => !(id == Str.ofString "super")
  | _ => true
def notSet : Expr → Bool
  | .Set _ _ _ => false
  | _ => true
def isBO : Expr → Bool
  | .BoolOp _ _ _ => true
  | _ => false
def plT : Expr → Bool
  | .BoolOp _ _ _ => false
  | .UnaryOp .Not _ _ => false
  | .IfExp _ _ _ _ => false
  | .Compare _ _ _ _ => false
  | _ => true
def tst : E → Bool
  | .ite _ _ _ => false
  | .and a b => tst a && tst b
  | .or a b => tst a && tst b
  | .not a => tst a
  | _ => true
def ownL (N : List Str) : List Nat → Option (List (Str × Nat))
  | [] => some []
  | i :: is => match N[i]?, ownL N is with
    | some x, some r => some ((x, i) :: r)
    | _, _ => none
def blkM (M : Mc) (scope : Scope) : Mc := ⟨L2.relS scope M.sc, M.N, fun x => scope.names.lookup x == some .cell⟩
mutual
def mG (M : Mc) : Tg → Expr → Bool
  | .name i, x => match x with
    | .Name id _ => M.N[i]? == some id && isLoc M id
    | _ => false
  | .tup ts, x => match x with
    | .Tuple es _ _ => mGs M ts es
    | _ => false
def mGs (M : Mc) : List Tg → List Expr → Bool
  | [], x => match x with
    | [] => true
    | _ => false
  | t :: ts, x => match x with
    | e :: es => mG M t e && mGs M ts es
    | _ => false
end
def isTup : Tg → Bool
  | .tup _ => true
  | _ => false
def mP (T : Tb) (M : Mc) : E → Expr → Bool
  | .var i, x => match x with
    | .Name id _ => mVar M i id
    | _ => false
  | .fld k j o, x => match x with
    | .Attribute y f _ => (T.fl k)[j]? == some f && okBase y && mP T M o y
    | _ => false
  | _, _ => false
/-- the items of a dict at hand -/
def mIt (T : Tb) (M : Mc) (e : E) (x : Expr) : Bool := match x with
  | .Call (.Attribute y name apos) [] [] pos => name == Str.ofString "items" && okBase y && (apos.endLine == pos.line) && mP T M e y
  | _ => false
def mII (T : Tb) (M : Mc) (it : It) (x : Expr) : Bool := match it with
  | .items e => mIt T M e x
  | _ => false
mutual
def mE (T : Tb) : Mc → E → Expr → Bool
  | M, .var i, x => match x with
    | .Name id _ => mVar M i id
    | _ => false
  | M, .vfz i, x => match x with
    | .Name id _ => mVar M i id
    | _ => false
  | _, .lit d, x => match x with
    | .Constant k _ _ => mLit d k
    | _ => false
  | M, .con k, x => match x with
    | .Name id _ => isGl M.sc id && okN id && T.con.lookup id == some k
    | _ => false
  | M, .tup es, x => match x with
    | .Tuple xs _ _ => mEs T M es xs && decide (xs.length ≤ 1000)
    | _ => false
  | M, .lst _ es, x => match x with
    | .List xs _ => mEs T M es xs && decide (xs.length ≤ 1000)
    | _ => false
  | M, .bin _ o a b, x => match x with
    | .BinOp y op z _ => decide (op = opOf o) && mE T M a y && mE T M b z
    | _ => false
  | M, .neg a, x => match x with
    | .UnaryOp .USub y _ => mE T M a y
    | _ => false
  | M, .cmp o a b, x => match x with
    | .Compare y [op] [z] _ => decide (op = copOf o) && notSet z && mE T M a y && mE T M b z
    | _ => false
  | M, .cmp2 o p a b d, x => match x with
    | .Compare y [op, oq] [z, t] _ => decide (op = copOf o) && decide (oq = copOf p) && notSet z && notSet t && mE T M a y && mE T M b z && mE T M d t
    | _ => false
  | M, .and a b, x => match x with
    | .BoolOp .And (y :: z :: r) pos => mE T M a y && (match r with | [] => mE T M b z | t :: r => mE T M b (.BoolOp .And (z :: t :: r) pos))
    | _ => false
  | M, .or a b, x => match x with
    | .BoolOp .Or (y :: z :: r) pos => mE T M a y && (match r with | [] => mE T M b z | t :: r => mE T M b (.BoolOp .Or (z :: t :: r) pos))
    | _ => false
  | M, .not a, x => match x with
    | .UnaryOp .Not y _ => mE T M a y
    | _ => false
  | M, .ite p a b, x => match x with
    | .IfExp t y z _ => tst p && mE T M p t && mE T M a y && mE T M b z
    | _ => false
  | M, .ix a i, x => match x with
    | .Subscript y z _ => notSlice z && mE T M a y && mE T M i z
    | _ => false
  | M, .slc _ a lo hi, x => match x with
    | .Subscript y (.Slice l h none _) _ => mE T M a y && mO T M lo l && mO T M hi h
    | _ => false
  | M, .rev _ a, x => match x with
    | .Subscript y (.Slice none none (some (.UnaryOp .USub (.Constant (.int k) _ _) _)) _) _ => decide (k = 1) && mE T M a y
    | _ => false
  | M, .call f es, x => match x with
    | .Call (.Name id _) xs [] _ => isGl M.sc id && okN id && T.fns.lookup id == some f && mEs T M es xs
    | _ => false
  | M, .new k es, x => match x with
    | .Call (.Name id _) xs [] _ => isGl M.sc id && okN id && T.cls.lookup id == some k && mEs T M es xs
    | _ => false
  | M, .mth m o es, x => match x with
    | .Call (.Attribute y name apos) xs [] pos => T.mts.lookup name == some m && okBase y && (apos.endLine == pos.line) && decide (xs.length < 30) && mE T M o y && mEs T M es xs
    | _ => false
  | M, .fld k j o, x => match x with
    | .Attribute y f _ => (T.fl k)[j]? == some f && okBase y && mE T M o y
    | _ => false
  | M, .isi a t, x => match x with
    | .Call (.Name id _) [y, .Name ty _] [] _ => id == Str.ofString "isinstance" && ty == Str.ofString (tyOf t) && isGl M.sc id && isGl M.sc ty && mE T M a y
    | _ => false
  | M, .bf _ b es, x => match x with
    | .Call (.Name id _) (y :: ys) [] _ => id == Str.ofString (bfV b) && isGl M.sc id && mEs T M es (y :: ys)
    | _ => false
  | M, .bt _ b es, x => match x with
    | .Call (.Name id _) (y :: ys) [] _ => btOk b && id == Str.ofString (btV b) && isGl M.sc id && mEs T M es (y :: ys)
    | _ => false
  | M, .bm b o es, x => match x with
    | .Call (.Attribute y name apos) xs [] pos => name == Str.ofString (bmV b) && okBase y && (apos.endLine == pos.line) && mE T M o y && (match b, xs with
        | .append, [_] => true | .extend, [_] => true | .index, [_] => true | .get1, [_] => true | .join, [_] => true | .get2, [_, _] => true | _, _ => false) && mEs T M es xs
    | _ => false
  | M, .comp _ own t it ifs e, x => match x with
    | .ListComp y [⟨tg, iter, ys, as⟩] scope _ => (match ownL M.N own with | some ol => L2.blkC M.N M.sc scope ol | none => false) && (tgs t).all (own.contains ·) && decide (as = 0) && decide (M.sc.kind = .function) && notSet iter && mG (blkM M scope) t tg && (mI T M t it iter || (isTup t && mII T M it iter)) && mC T (blkM M scope) ifs ys && mE T (blkM M scope) e y
    | _ => false
  | M, .dcomp _ own t it ifs k e, x => match x with
    | .DictComp z y [⟨tg, iter, ys, as⟩] scope _ => (match ownL M.N own with | some ol => L2.blkC M.N M.sc scope ol | none => false) && (tgs t).all (own.contains ·) && decide (as = 0) && decide (M.sc.kind = .function) && notSet iter && mG (blkM M scope) t tg && (mI T M t it iter || (isTup t && mII T M it iter)) && mC T (blkM M scope) ifs ys && mE T (blkM M scope) k z && mE T (blkM M scope) e y
    | _ => false
  | _, .dnew, x => match x with
    | .Dict [] [] _ => true
    | _ => false
  | _, _, _ => false
def mEs (T : Tb) : Mc → List E → List Expr → Bool
  | _, [], x => match x with
    | [] => true
    | _ => false
  | M, e :: es, x => match x with
    | y :: ys => mE T M e y && mEs T M es ys
    | _ => false
def mO (T : Tb) : Mc → Option E → Option Expr → Bool
  | _, none, x => match x with
    | none => true
    | _ => false
  | M, some e, x => match x with
    | some y => mE T M e y
    | _ => false
def mC (T : Tb) : Mc → List E → List Expr → Bool
  | _, [], x => match x with
    | [] => true
    | _ => false
  | M, [e], x => match x with
    | [y] => tst e && mE T M e y
    | _ => false
  | _, _, _ => false
def mI (T : Tb) : Mc → Tg → It → Expr → Bool
  | M, _, .of e, x => mE T M e x
  | M, t, .enum e, x => match t, x with
    | .tup _, .Call (.Name id _) [y] [] _ => id == Str.ofString "enumerate" && isGl M.sc id && mE T M e y
    | _, _ => false
  | M, t, .zip a b, x => match t, x with
    | .tup _, .Call (.Name id _) [y, z] [] _ => id == Str.ofString "zip" && isGl M.sc id && mE T M a y && mE T M b z
    | _, _ => false
  | M, _, .rng1 a, x => match x with
    | .Call (.Name id _) [y] [] _ => id == Str.ofString "range" && isGl M.sc id && mE T M a y
    | _ => false
  | M, _, .rng2 a b, x => match x with
    | .Call (.Name id _) [y, z] [] _ => id == Str.ofString "range" && isGl M.sc id && mE T M a y && mE T M b z
    | _ => false
  | _, _, _, _ => false
end
def notComp : Expr → Bool
  | .ListComp _ _ _ _ => false
  | .SetComp _ _ _ _ => false
  | .DictComp _ _ _ _ _ => false
  | _ => true
def notTup : Expr → Bool
  | .Tuple _ _ _ => false
  | _ => true
def mXE (T : Tb) (M : Mc) (i : Nat) : XE → Expr → Bool
  | .lit d, x => match x with
    | .Constant k _ _ => mLit d k
    | _ => false
  | .fld k j, x => match x with
    | .Attribute (.Name id _) f _ => mVar M i id && (T.xf k)[j]? == some f && T.rse.contains k
    | _ => false
  | .tup es, x => match x with
    | .Tuple xs _ _ => mXEs T M i es xs && decide (xs.length ≤ 1000)
    | _ => false
where
  mXEs (T : Tb) (M : Mc) (i : Nat) : List XE → List Expr → Bool
  | [], x => match x with
    | [] => true
    | _ => false
  | e :: es, x => match x with
    | y :: ys => mXE T M i e y && mXEs T M i es ys
    | _ => false
def mX (T : Tb) (M : Mc) (i : Nat) : Z.X → Expr → Bool
  | .isi d, x => match x with
    | .Call (.Name id _) [.Name v _, .Name k _] [] _ => id == Str.ofString "isinstance" && isGl M.sc id && mVar M i v && isGl M.sc k && okN k && T.xcs.lookup k == some d
    | _ => false
  | .isB _, x => match x with
    | .Call (.Name id _) [.Name v _, .Name k _] [] _ => id == Str.ofString "isinstance" && isGl M.sc id && mVar M i v && isGl M.sc k && k == Str.ofString "ValueError"
    | _ => false
  | .not a, x => match x with
    | .UnaryOp .Not y _ => mX T M i a y
    | _ => false
  | .or a b, x => match x with
    | .BoolOp .Or (y :: z :: r) pos => mX T M i a y && (match r with | [] => mX T M i b z | t :: r => mX T M i b (.BoolOp .Or (z :: t :: r) pos))
    | _ => false
def mSu (T : Tb) (M : Mc) (i : Nat) : List Su → List PySem.Stmt → Bool
  | [], x => match x with
    | [] => true
    | _ => false
  | .ifr b e :: r, x => match x with
    | .If p [.Return (some y) _] [] _ :: rest => mX T M i b p && mXE T M i e y && mSu T M i r rest
    | _ => false
  | .ret e :: _, x => match x with
    | .Return (some y) _ :: _ => mXE T M i e y
    | _ => false
/-- a comprehension stored at a name in one move -/
def swB (M : Mc) (id : Str) (p : PySem.Pos) (y : Expr) (scope : Scope) : Bool := decide (M.sc.kind = .function) && M.sc.names.lookup id == some .local && (p.line == y.pos.line) && !(scope.names.any fun x => x.1 == id && (x.2 == .local || x.2 == .cell))
mutual
def mS (T : Tb) (M : Mc) : St → PySem.Stmt → Bool
  | .set t e, x => match x with
    | .Assign [tg] y _ => mG M t tg && mE T M e y && (match y with
      | .ListComp elt gs sc p => (match tg with | .Name id pp => swB M id pp (.ListComp elt gs sc p) sc | _ => false)
      | .SetComp _ _ _ _ => false
      | .DictComp _ _ _ _ _ => false
      | .Tuple _ _ _ => notTup tg
      | _ => true)
    | .AnnAssign tg _ (some y) _ _ => mG M t tg && mE T M e y && notComp y
    | _ => false
  | .aug i o e, x => match x with
    | .AugAssign (.Name id _) op y _ => M.N[i]? == some id && isLoc M id && decide (op = opOf o) && (o == .add || o == .sub || o == .mul) && mE T M e y
    | _ => false
  | .exp e, x => match x with
    | .Expr y _ => notComp y && mE T M e y
    | _ => false
  | .ret e, x => match x with
    | .Return (some y) _ => mE T M e y
    | _ => false
  | .retN, x => match x with
    | .Return none _ => true
    | _ => false
  | .ife c a b, x => match x with
    | .If p ys zs _ => tst c && mE T M c p && mSs T M a ys && mSs T M b zs
    | _ => false
  | .for t it b, x => match x with
    | .For tg iter ys [] _ => mG M t tg && mI T M t it iter && notSet iter && mSs T M b ys
    | _ => false
  | .whl _ c b, x => match x with
    | .While p ys [] _ => tst c && mE T M c p && mSs T M b ys
    | _ => false
  | .raise k es, x => match x with
    | .Raise (some (.Call (.Name id _) [y] [] _)) none _ => isGl M.sc id && okN id && T.xcs.lookup id == some k && T.rse.contains k && mEs T M es [y]
    | _ => false
  | .setix o i e, x => match x with
    | .Assign [.Subscript z t _] y _ => notComp y && notSlice t && mE T M e y && mE T M o z && mE T M i t
    | _ => false
  | .setfld o k j e, x => match x with
    | .Assign [.Attribute z f _] y _ => (T.fl k)[j]? == some f && mE T M e y && mE T M o z
    | _ => false
  | .try b hs, x => match x with
    | .Try ys [.ExceptHandler (some (.Name id _)) (some v) (s0 :: suite) _] [] [] _ => (match hs with
      | [⟨dc, i, sus⟩] => M.N[i]? == some v && M.sc.names.lookup v == some .local && isGl M.sc id && okN id && T.xcs.lookup id == some dc && mSu T M i sus (s0 :: suite)
      | _ => false) && mSs T M b ys
    | _ => false
  | .cont, x => match x with
    | .Continue _ => true
    | _ => false
  | .brk, x => match x with
    | .Break _ => true
    | _ => false
  | .pass, x => match x with
    | .Pass _ => true
    | .Expr (.Constant (.str _) _ _) _ => true
    | _ => false
  | _, _ => false
def mSs (T : Tb) (M : Mc) : List St → List PySem.Stmt → Bool
  | [], x => match x with
    | [] => true
    | _ => false
  | s :: ss, x => match x with
    | y :: ys => mS T M s y && mSs T M ss ys
    | _ => false
end
end Z
end

section
set_option autoImplicit false
set_option linter.all false
set_option maxRecDepth 100000
namespace Z
open PySem (Str sizeLine Value Addr PyData Expr Scope)
open L2 (V HO Hp Key Cx)
def bnames : List Str := ["len", "all", "any", "sum", "min", "max", "sorted", "abs", "list", "tuple", "int", "str", "bool", "dict", "isinstance", "enumerate", "zip", "range", "ValueError"].map Str.ofString
structure Gb (c : Cfg) (T : Tb) (G : Pg) (n : Nat) (cl : Nat → List U → Stk → RE U) (P : PySem.Program) (w : PySem.World) (mg : Str → Option Value) (base : PySem.Heap) : Prop where
  fns : ∀ x f, T.fns.lookup x = some f → ∃ a fd ps, mg x = some (.ref a) ∧ PySem.W.keepIn c.K (.ref a) = true ∧ L2.Binds c.K fd ps [] ∧ L2.FnOk P w c.K mg base (L2.CX P w) (2 * n + 1) a fd ps (spF c (cl f))
  mts : ∀ x m, T.mts.lookup x = some m → (∃ k f, G.meth k m = some f) ∧ ∀ k f, G.meth k m = some f → x ∉ c.fl k ∧ ∃ a fd ps, L2.Cls c.K (c.ca k) ∧ L2.Meth c.K (c.ca k) x a ∧ L2.Binds c.K fd ps [] ∧ L2.FnOk P w c.K mg base (L2.CX P w) (2 * n + 1) a fd ps (spF c (cl f))
  cls : ∀ x k, T.cls.lookup x = some k → mg x = some (.ref (c.ca k)) ∧ ∃ f a fd ps, G.init k = some f ∧ L2.Mk c.K (c.ca k) a ∧ L2.Binds c.K fd ps [] ∧ L2.FnOk P w c.K mg base (L2.CX P w) (2 * n + 1) a fd ps (spF c (cl f))
  fld : ∀ (k j : Nat) (f : Str), (T.fl k)[j]? = some f → (c.fl k)[j]? = some f ∧ L2.Cls c.K (c.ca k) ∧ L2.NoAttr c.K (c.ca k) f ∧ (c.fl k).Nodup ∧ (c.fl k).length < 1000
  con : ∀ x k, T.con.lookup x = some k → ∃ u v, mg x = some u ∧ L2.RelV v u ∧ ∀ w : Wd, RD c w.H (Live w) (G.con k) v
  nob : ∀ x ∈ bnames, mg x = none
  exs : ExF c G (T.xcs.map (·.2))
  xcs : ∀ x k, T.xcs.lookup x = some k → mg x = some (.ref (c.ca k))
  xsT : c.xs = T.rse
  xfl : ∀ k ∈ c.xs, c.fl k = T.xf k
  rse : ∀ k ∈ c.xs, ∃ f a fd ps, c.fl k = [f] ∧ G.flds k = 1 ∧ L2.OexC c.K (c.ca k) ∧ PySem.W.findIn c.K (.ref (c.ca k)) (Str.ofString "__init__") = some (some (.ref a)) ∧ PySem.W.typeIn c.K (.ref a) = some (.type "function") ∧ L2.Binds c.K fd ps [] ∧ L2.FnOk P w c.K mg base (L2.CX P w) (2 * n + 1) a fd ps (spX c k f)
structure XO (c : Cfg) (T : Tb) (G : Pg) (n : Nat) (cl : Nat → List U → Stk → RE U) (M : Mc) (W : L2.XK) (X : Cx) : Prop where
  hK : X.K = c.K
  hN : X.N = M.N
  nd : M.N.Nodup
  sc : X.env.scope = M.sc
  fn : X.fn = M.fn
  rm : Rm X
  rd : L2.Room (2 * n + 2) X.A
  calm : X.calm = true
  tk : Tk X W
  gb : Gb c T G n cl X.prog X.w X.mg X.base
theorem room_le {k k' : Nat} {A : PySem.Around} (h : L2.Room k A) (q : k' ≤ k) : L2.Room k' A := ⟨h.hd, by have := h.dp; omega, by have := h.un; omega⟩
section
variable {c : Cfg} {T : Tb} {G : Pg} {n : Nat} {cl : Nat → List U → Stk → RE U} {M : Mc} {W : L2.XK} {X : Cx}
theorem isVis_ok (O : XO c T G n cl M W X) {x : Str} (h : isVis M.sc x = true) : L2.Vis X.env.scope x := by
  unfold isVis at h
  rw [O.sc]
  simp only [Bool.or_eq_true, beq_iff_eq] at h
  exact h.elim (fun h => h.elim .inl fun h => .inr (.inl h)) fun h => .inr (.inr h)
theorem isGl_ok (O : XO c T G n cl M W X) {x : Str} (h : isGl M.sc x = true) : L2.Gl X x := by
  unfold isGl at h
  show List.lookup x X.env.scope.names = _
  rw [O.sc]
  simpa using h
theorem okN_ok {x : Str} (h : okN x = true) : (x == Str.ofString "__debug__") = false ∧ (x == Str.ofString "__classdict__") = false := by
  unfold okN at h
  rw [Bool.and_eq_true] at h
  exact ⟨by simpa using h.1, by simpa using h.2⟩
theorem mVar_ok (O : XO c T G n cl M W X) {x : Str} {i : Nat} (h : mVar M i x = true) : X.N[i]? = some x ∧ L2.Vis X.env.scope x ∧ (x == Str.ofString "__debug__") = false ∧ (x == Str.ofString "__classdict__") = false := by
  unfold mVar at h
  rw [Bool.and_eq_true, Bool.and_eq_true] at h
  exact ⟨by rw [O.hN]; simpa using h.1.1, isVis_ok O h.1.2, okN_ok h.2⟩
theorem isLoc_ok (O : XO c T G n cl M W X) {x : Str} (h : isLoc M x = true) : L2.Loc X.env.scope x ∧ (X.fn x = true ∨ List.lookup x X.env.scope.names = some .local) := by
  unfold isLoc at h
  rw [O.sc, O.fn]
  simp only [Bool.and_eq_true, Bool.or_eq_true, beq_iff_eq] at h
  exact ⟨h.1, h.2⟩
theorem base_ok {o : Expr} (h : okBase o = true) (m : Str) (env : PySem.Env) : PySem.attributeBase o m env (PySem.eval o env) = PySem.eval o env := by
  unfold okBase at h
  split at h
  · rename_i id _ _
    unfold PySem.attributeBase
    have h : (id != Str.ofString "super") = true := by simpa [bne] using h
    simp only [h, Bool.true_or, if_true]
  · rename_i hn
    unfold PySem.attributeBase
    split
    · rename_i id p p'
      exact absurd rfl (hn id p p')
    · rfl
theorem mG_ok (O : XO c T G n cl M W X) : ∀ (t : Tg) {x : Expr}, mG M t x = true → L2.PG X x (tgT c t) ∧ notStar x = true
  | .name i, x, h => by
    unfold mG at h
    split at h
    · rw [Bool.and_eq_true] at h
      obtain ⟨h1, h2⟩ := isLoc_ok O h.2
      exact ⟨sg_name (by rw [O.hN]; exact O.nd) (by rw [O.hN]; simpa using h.1) h1 h2, rfl⟩
    · cases h
  | .tup ts, x, h => by
    unfold mG at h
    split at h
    · have := mGs_ok O ts h
      exact ⟨sg_tup O.hK O.calm this.1 this.2.1 this.2.2, rfl⟩
    · cases h
where
  mGs_ok (O : XO c T G n cl M W X) : ∀ (ts : List Tg) {xs : List Expr}, mGs M ts xs = true → L2.PGs X xs (tgTs c ts) ∧ xs.all notStar = true ∧ xs.length = ts.length
  | [], xs, h => by
    unfold mGs at h
    split at h
    · exact ⟨sg_nil, rfl, rfl⟩
    · cases h
  | t :: ts, xs, h => by
    unfold mGs at h
    split at h
    · rw [Bool.and_eq_true] at h
      have h1 := mG_ok O t h.1
      have h2 := mGs_ok O ts h.2
      exact ⟨sg_cons h1.1 h2.1 h1.2, by rw [List.all_cons, h1.2, h2.2.1]; rfl, by rw [List.length_cons, List.length_cons, h2.2.2]⟩
    · cases h
theorem nob (O : XO c T G n cl M W X) {x : Str} (h : x ∈ bnames) : X.mg x = none := O.gb.nob x h
theorem mLit_ok (X : Cx) {d : D} {k : PySem.Const} (h : mLit d k = true) (j : Nat) (pos : PySem.Pos) : ∃ v, L2.PE X (.Constant k j pos) (L2.tC v) ∧ ∀ w : Wd, RD c w.H (Live w) d v := by
  unfold mLit at h
  split at h
  · exact ⟨.non, L2.pe_non, fun _ => .non⟩
  · rename_i b b'
    have : b = b' := by simpa using h
    subst this
    exact ⟨.bl b, L2.pe_bl, fun _ => .bl b⟩
  · rename_i b b'
    have : b = b' := by simpa using h
    subst this
    exact ⟨.int b, L2.pe_int, fun _ => .int b⟩
  · rename_i x y
    rw [Bool.and_eq_true] at h
    have : sOf x = y := by simpa using h.1
    subst this
    exact ⟨.str (sOf x), L2.pe_str, fun _ => .str (by rw [← big_line]; simpa using h.2)⟩
  · cases h
/-- the block of a comprehension -/
theorem blk_ok (O : XO c T G n cl M W X) {scope : Scope} {s : PySem.Shared} {H : Hp} {C : Addr} {l : List (Str × Addr)} {fp : List Addr} : XO c T G n cl (blkM M scope) W0 (X.blk s H scope (PySem.compEnvC scope l C X.env) fp) where
  hK := O.hK
  hN := O.hN
  nd := O.nd
  sc := by show PySem.relabel scope X.env = L2.relS scope M.sc; rw [← O.sc]; rfl
  fn := rfl
  rm := O.rm
  rd := O.rd
  calm := O.calm
  tk := fun u s' h => by obtain ⟨_, _, _, _, _, _, _, _, _, _, _, _, _, _, _, _, h⟩ := h; exact h.elim
  gb := O.gb
end
end Z
end

section
set_option autoImplicit false
set_option linter.all false
set_option maxRecDepth 100000
namespace Z
open PySem (Str sizeLine Value Addr PyData Expr Scope)
open L2 (V HO Hp Key Cx)
structure Snd (c : Cfg) (X : Cx) (W : L2.XK) (x : Expr) (tt : Bool) (f : Env → Stk → RE U) : Prop where
  se : SE c X W x f
  sb : tt = true → SB c X W x (tr f)
  sw : tt = true → isBO x = true → SW c X W x (tr f)
  ns : notStar x = true
section
variable {c : Cfg} {T : Tb} {G : Pg} {n : Nat} {cl : Nat → List U → Stk → RE U} {M : Mc} {W : L2.XK} {X : Cx}
theorem plT_ok {x : Expr} (h : plT x = true) (env : PySem.Env) : ∀ whole : PySem.Sem Value, PySem.isTrue x env whole = (do let v ← whole; PySem.standAt x.pos; PySem.holding [v] (PySem.truthy v)) := fun whole => by
  cases x <;> first | rfl | (cases h) | skip
  rename_i op y p
  cases op <;> first | rfl | (cases h)
theorem snd_pl (O : XO c T G n cl M W X) {x : Expr} {tt : Bool} {f : Env → Stk → RE U} (h : SE c X W x f) (hp : plT x = true) (hn : notStar x = true) : Snd c X W x tt f :=
  ⟨h, fun _ => sb_plain O.hK O.rm h (plT_ok hp _), fun _ hb => (by cases x <;> first | (cases hb; done) | (cases hp; done)), hn⟩
theorem sIf {e : Expr} (h : notSet e = true) (env : PySem.Env) : ∀ x, PySem.foldedSetIterable e env x = pure x := fun x => by
  cases e <;> first | rfl | cases h
theorem behind_ok {e : Expr} (h : notSet e = true) (op : PySem.CmpOp) : PySem.behindInMarks op e = false := by
  cases e <;> first | rfl | cases h
theorem lookup_fs {fs : List (Str × V)} {x : Str} {l : List Str} {k : Nat} (e : fs.map (·.1) = l.take k) (h : x ∉ l) : fs.lookup x = none := by
  rw [List.lookup_eq_none_iff]
  intro p hp
  have : p.1 ∈ fs.map (·.1) := List.mem_map_of_mem hp
  rw [e] at this
  have := List.mem_of_mem_take this
  rw [bne_iff_ne]
  rintro rfl
  exact h this
theorem own_ok : ∀ {N : List Str} {own : List Nat} {ol : List (Str × Nat)}, ownL N own = some ol → ol.map (·.2) = own
  | N, [], ol, h => by cases h; rfl
  | N, i :: is, ol, h => by
    unfold ownL at h
    split at h
    · rename_i x r e1 e2
      cases h
      rw [List.map_cons, own_ok e2]
    · cases h
theorem sp_ok (O : XO c T G n cl M W X) : ∀ (e : E) {x : Expr}, mP T M e x = true → ∃ pv, SP c X x (evE G cl e) pv
  | .var i, x, h => by
    unfold mP at h
    split at h
    · obtain ⟨h1, h2, h3, h4⟩ := mVar_ok O h
      exact ⟨_, sp_var h1 h2 h3 h4⟩
    · cases h
  | .fld k j o, x, h => by
    unfold mP at h
    split at h
    · simp only [Bool.and_eq_true, beq_iff_eq] at h
      obtain ⟨⟨h1, h2⟩, h3⟩ := h
      obtain ⟨g1, g2, g3, g4, g5⟩ := O.gb.fld _ _ _ h1
      obtain ⟨pv, hp⟩ := sp_ok O o h3
      exact ⟨_, sp_fld O.hK hp (base_ok h2 _ _) g2 g3 g4 g1⟩
    · cases h
  | .vfz _, _, h | .lit _, _, h | .con _, _, h | .tup _, _, h | .lst _ _, _, h | .bin _ _ _ _, _, h | .neg _, _, h | .cmp _ _ _, _, h | .cmp2 _ _ _ _ _, _, h | .and _ _, _, h | .or _ _, _, h | .not _, _, h | .ite _ _ _, _, h | .ix _ _, _, h
  | .slc _ _ _ _, _, h | .rev _ _, _, h | .call _ _, _, h | .new _ _, _, h | .mth _ _ _, _, h | .isi _ _, _, h | .bf _ _ _, _, h | .maxd _ _, _, h | .bt _ _ _, _, h | .bm _ _ _, _, h | .comp _ _ _ _ _ _, _, h | .dcomp _ _ _ _ _ _ _, _, h | .dnew, _, h => by cases h
theorem bfun_md (b : Bf) (hb : b ≠ .sorted) (m : Md) (s : Stk) (us : List U) : bfun m b s us = bfun .val b s us := by
  cases m with
  | val => rfl
  | cell =>
    rcases us with _ | ⟨u, _ | ⟨u', _ | ⟨u'', us⟩⟩⟩ <;> cases b <;> first | rfl | exact absurd rfl hb
theorem bty_md (b : Bt) (hb : b ≠ .list) (m : Md) (s : Stk) (us : List U) : bty m b s us = bty .val b s us := by
  cases m with
  | val => rfl
  | cell =>
    rcases us with _ | ⟨u, _ | ⟨u', us⟩⟩ <;> cases b <;> first | rfl | exact absurd rfl hb
theorem bf_ok (O : XO c T G n cl M W X) (m : Md) (b : Bf) : LeafC X c (.builtin (bfV b)) (fun s us => bfun m b s us) := by
  by_cases hb : b = .sorted
  · subst hb; exact leaf_sorted O.hK O.rm m
  · rw [show (fun s us => bfun m b s us) = fun s us => bfun .val b s us from funext fun s => funext fun us => bfun_md b hb m s us]
    cases b with
    | len => exact leaf_len O.hK
    | all => exact leaf_all O.hK O.calm
    | any => exact leaf_any O.hK O.calm
    | sum => exact leaf_sum O.hK O.calm
    | min1 => exact leaf_min1 O.hK O.rm O.calm
    | max1 => exact leaf_max1 O.hK O.rm O.calm
    | min2 => exact leaf_min2 O.calm
    | max2 => exact leaf_max2 O.calm
    | sorted => exact absurd rfl hb
    | abs => exact leaf_abs
theorem bt_ok (O : XO c T G n cl M W X) (m : Md) (b : Bt) (h : btOk b = true) : LeafC X c (.type (btV b)) (fun s us => bty m b s us) := by
  by_cases hb : b = .list
  · subst hb; exact leaf_list O.hK O.calm m
  · rw [show (fun s us => bty m b s us) = fun s us => bty .val b s us from funext fun s => funext fun us => bty_md b hb m s us]
    cases b with
    | list => exact absurd rfl hb
    | tuple => exact call_tupleL O.hK
    | int => exact leaf_int
    | str => cases h
    | bool => exact leaf_bool
theorem se_bf (O : XO c T G n cl M W X) {m : Md} {b : Bf} {y : Expr} {ys : List Expr} {p pos : PySem.Pos} {f : Env → Stk → RE (List U)} (hg : isGl M.sc (Str.ofString (bfV b)) = true) (hn : (y :: ys).all notStar = true) (ha : SA c X W (y :: ys) f) :
    SE c X W (.Call (.Name (Str.ofString (bfV b)) p) (y :: ys) [] pos) (fun ρ s => (f ρ s).bind fun us s => bfun m b s us) := by
  have hn' := hn
  rw [List.all_cons, Bool.and_eq_true] at hn'
  refine se_leaf (fun r hr t ht => ?_) (bf_ok O m b) ha
  have hm : X.mg (Str.ofString (bfV b)) = none := nob O (by cases b <;> decide +kernel)
  cases b <;> exact L2.pe_callB hr (isGl_ok O hg) hm (by decide +kernel) ht (by decide +kernel) (by decide +kernel) (star_cons hn'.1 _ _) (star_any hn'.2)
theorem se_bt (O : XO c T G n cl M W X) {m : Md} {b : Bt} {y : Expr} {ys : List Expr} {p pos : PySem.Pos} {f : Env → Stk → RE (List U)} (hb : btOk b = true) (hg : isGl M.sc (Str.ofString (btV b)) = true) (hn : (y :: ys).all notStar = true) (ha : SA c X W (y :: ys) f) :
    SE c X W (.Call (.Name (Str.ofString (btV b)) p) (y :: ys) [] pos) (fun ρ s => (f ρ s).bind fun us s => bty m b s us) := by
  have hn' := hn
  rw [List.all_cons, Bool.and_eq_true] at hn'
  refine se_leaf (fun r hr t ht => ?_) (bt_ok O m b hb) ha
  have hm : X.mg (Str.ofString (btV b)) = none := nob O (by cases b <;> decide +kernel)
  cases b <;> exact L2.pe_callTy hr (isGl_ok O hg) hm (by decide +kernel) ht (by decide +kernel) (by decide +kernel) (star_cons hn'.1 _ _) (star_any hn'.2)
end
end Z
end

section
set_option autoImplicit false
set_option linter.all false
set_option maxRecDepth 100000
namespace Z
open PySem (Str sizeLine Value Addr PyData Expr Scope)
open L2 (V HO Hp Key Cx)
section
variable {c : Cfg} {T : Tb} {G : Pg} {n : Nat} {cl : Nat → List U → Stk → RE U}
structure SndA (c : Cfg) (X : Cx) (W : L2.XK) (xs : List Expr) (es : List E) (f : Env → Stk → RE (List U)) : Prop where
  sa : SA c X W xs f
  ns : xs.all notStar = true
  len : xs.length = es.length
  nil : xs = [] → f = fun _ s => .ok [] s
theorem se_mth {M : Mc} {W : L2.XK} {X : Cx} (O : XO c T G n cl M W X) {m : Nat} {name : Str} {apos pos : PySem.Pos} {o : Expr} {es : List Expr} {f : Env → Stk → RE U} {g : Env → Stk → RE (List U)} (hl : T.mts.lookup name = some m) (ho : SE c X W o f) (ha : SA c X W es g) (h0 : es = [] → g = fun _ s => .ok [] s) (hn : es.all notStar = true) (hl30 : es.length < 30) (hb : okBase o = true) (hline : (apos.endLine == pos.line) = true) :
    SE c X W ((o.Attribute name apos).Call es [] pos) (fun ρ s => (f ρ s).bind fun x s => (RE.of (methU G s m x) s).bind fun f s => (g ρ s).bind fun us s => cl f (x :: us) s) := by
  obtain ⟨⟨k0, f0, hk0⟩, hM⟩ := O.gb.mts _ _ hl
  have hM' : ∀ i : { p : Nat × Nat // G.meth p.1 m = some p.2 }, ∃ (k : Nat) (a : Addr) (fd : PySem.FuncData) (ps : List Str), L2.Cls X.K (c.ca i.1.1) ∧ L2.Meth X.K (c.ca i.1.1) name a ∧ L2.FnOk X.prog X.w X.K X.mg X.base (L2.CX X.prog X.w) k a fd ps (spF c (cl i.1.2)) ∧ L2.Room k X.A ∧ L2.Binds X.K fd ps [] := fun i => by
    obtain ⟨_, a, fd, ps, h1, h2, h3, h4⟩ := hM i.1.1 i.1.2 i.2
    rw [O.hK]
    exact ⟨2 * n + 1, a, fd, ps, h1, h2, h4, room_le O.rd (by omega), h3⟩
  let sel : Stk → U → Option { p : Nat × Nat // G.meth p.1 m = some p.2 } := fun s x => match insOf s x with
    | some (k, _) => match e : G.meth k m with
      | some f => some ⟨(k, f), e⟩
      | none => none
    | none => none
  have hsel : ∀ s x, methU G s m x = (sel s x).map fun i => i.1.2 := fun s x => by
    unfold methU
    simp only [sel]
    cases insOf s x with
    | none => rfl
    | some p =>
      obtain ⟨k, us⟩ := p
      simp only
      split
      · rename_i f e; exact e
      · rename_i e; exact e
  have key := se_meth (c := c) (X := X) (W := W) (C := fun i : { p : Nat × Nat // G.meth p.1 m = some p.2 } => c.ca i.1.1) (sp := fun i => cl i.1.2) (sel := sel) hM' (fun w u v i ok r e => by
    simp only [sel] at e
    cases e1 : insOf w.s u with
    | none => rw [e1] at e; cases e
    | some p =>
      obtain ⟨k, us⟩ := p
      rw [e1] at e
      simp only at e
      split at e
      · rename_i f ef
        cases e
        obtain ⟨a, dx, fs, q1, q2, q3, q4⟩ := insOf_ok ok r e1
        exact ⟨a, dx, fs, q1, q2, lookup_fs q3 (hM k f ef).1⟩
      · cases e) O.tk ho ha h0 ⟨(k0, f0), hk0⟩ hn hl30 (base_ok hb _ _) hline
  have e : (fun ρ s => (f ρ s).bind fun x s => (RE.of (methU G s m x) s).bind fun f s => (g ρ s).bind fun us s => cl f (x :: us) s) = fun ρ s => (f ρ s).bind fun x s => (RE.of (sel s x) s).bind fun i s => (g ρ s).bind fun us s => cl i.1.2 (x :: us) s := by
    funext ρ s
    congr 1
    funext x s
    rw [hsel]
    cases sel s x <;> rfl
  rw [e]
  exact key
theorem pts_weak {X : Cx} {e : List Expr} {t u : L2.TT} (h : L2.PTs X e t) (k : ∀ σ H Q, u σ H Q → t σ H Q) : L2.PTs X e u := ⟨fun pins s σ H Q I q => h.run _ _ _ _ _ I (k _ _ _ q)⟩
theorem sndII : ∀ (it : It) {M : Mc} {W : L2.XK} {X : Cx} (O : XO c T G n cl M W X) (t : Tg) {tg x : Expr} {M' : Mc} (hg : mG M' t tg = true) (ht : isTup t = true) (h : mII T M it x = true),
    ∃ e0 pv, it = .items e0 ∧ ∃ y, SP c X y (evE G cl e0) pv ∧ L2.PI X tg x (L2.iItems fun σ H Q => ∃ v, pv σ H = some v ∧ Q v H) ∧ ∃ elts kk tpos, tg = .Tuple elts kk tpos
  | .items e, M, W, X, O, t, tg, x, M', hg, ht, h => by
    replace h : mIt T M e x = true := h
    unfold mIt at h
    split at h
    · rename_i y name apos pos
      simp only [Bool.and_eq_true, beq_iff_eq] at h
      obtain ⟨⟨⟨rfl, h1⟩, h2⟩, h3⟩ := h
      obtain ⟨pv, hp⟩ := sp_ok O e h3
      cases t with
      | name i => cases ht
      | tup ts =>
        unfold mG at hg
        split at hg
        · exact ⟨e, pv, rfl, y, hp, L2.pi_items hp.pe (base_ok h1 _ _) (by rw [beq_iff_eq]; exact h2), _, _, _, rfl⟩
        · cases hg
    · cases h
  | .of _, M, W, X, O, t, tg, x, M', hg, ht, h => absurd (show false = true from h) (by decide)
  | .enum _, M, W, X, O, t, tg, x, M', hg, ht, h => absurd (show false = true from h) (by decide)
  | .zip _ _, M, W, X, O, t, tg, x, M', hg, ht, h => absurd (show false = true from h) (by decide)
  | .rng1 _, M, W, X, O, t, tg, x, M', hg, ht, h => absurd (show false = true from h) (by decide)
  | .rng2 _ _, M, W, X, O, t, tg, x, M', hg, ht, h => absurd (show false = true from h) (by decide)
  | .rng3 _ _ _, M, W, X, O, t, tg, x, M', hg, ht, h => absurd (show false = true from h) (by decide)
mutual
theorem snd : ∀ (e : E) {M : Mc} {W : L2.XK} {X : Cx} {x : Expr}, XO c T G n cl M W X → mE T M e x = true → Snd c X W x (tst e) (evE G cl e)
  | .var i, M, W, X, x, O, h => by
    unfold mE at h
    split at h
    · obtain ⟨h1, h2, h3, h4⟩ := mVar_ok O h
      exact snd_pl O (se_var h1 h2 h3 h4) rfl rfl
    · cases h
  | .vfz i, M, W, X, x, O, h => by
    unfold mE at h
    split at h
    · obtain ⟨h1, h2, h3, h4⟩ := mVar_ok O h
      exact snd_pl O (se_vfz h1 h2 h3 h4) rfl rfl
    · cases h
  | .lit d, M, W, X, x, O, h => by
    unfold mE at h
    split at h
    · obtain ⟨v, h1, h2⟩ := mLit_ok X h _ _
      exact snd_pl O (se_lit h1 h2) rfl rfl
    · cases h
  | .con k, M, W, X, x, O, h => by
    unfold mE at h
    split at h
    · simp only [Bool.and_eq_true, beq_iff_eq] at h
      obtain ⟨⟨h1, h2⟩, h3⟩ := h
      obtain ⟨u, v, g1, g2, g3⟩ := O.gb.con _ _ h3
      exact snd_pl O (se_lit (L2.pe_glob (isGl_ok O h1) g1 g2 (okN_ok h2).1) g3) rfl rfl
    · cases h
  | .tup es, M, W, X, x, O, h => by
    unfold mE at h
    split at h
    · simp only [Bool.and_eq_true, decide_eq_true_eq] at h
      have := sndEs es O h.1
      exact snd_pl O (se_tup this.sa (Nat.le_trans h.2 (by decide))) rfl rfl
    · cases h
  | .lst m es, M, W, X, x, O, h => by
    unfold mE at h
    split at h
    · simp only [Bool.and_eq_true, decide_eq_true_eq] at h
      have := sndEs es O h.1
      exact snd_pl O (se_lst this.sa (Nat.le_trans h.2 (by decide))) rfl rfl
    · cases h
  | .bin m o a b, M, W, X, x, O, h => by
    unfold mE at h
    split at h
    · simp only [Bool.and_eq_true, decide_eq_true_eq] at h
      obtain ⟨⟨rfl, h1⟩, h2⟩ := h
      exact snd_pl O (se_bin (snd a O h1).se (snd b O h2).se) rfl rfl
    · cases h
  | .neg a, M, W, X, x, O, h => by
    unfold mE at h
    split at h
    · exact snd_pl O (se_neg (snd a O h).se) rfl rfl
    · cases h
  | .cmp o a b, M, W, X, x, O, h => by
    unfold mE at h
    split at h
    · simp only [Bool.and_eq_true, decide_eq_true_eq] at h
      obtain ⟨⟨⟨rfl, h1⟩, h2⟩, h3⟩ := h
      exact ⟨se_cmp O.hK O.rm (snd a O h2).se (snd b O h3).se (behind_ok h1 _), fun _ => sb_cmp O.hK O.rm (snd a O h2).se (snd b O h3).se (behind_ok h1 _), fun _ hb => (by cases hb), rfl⟩
    · cases h
  | .cmp2 o p a b d, M, W, X, x, O, h => by
    unfold mE at h
    split at h
    · simp only [Bool.and_eq_true, decide_eq_true_eq] at h
      obtain ⟨⟨⟨⟨⟨⟨rfl, rfl⟩, h1⟩, h2⟩, h3⟩, h4⟩, h5⟩ := h
      exact ⟨se_cmp2 O.hK O.rm (snd a O h3).se (snd b O h4).se (snd d O h5).se (behind_ok h2 _), fun _ => sb_cmp2 O.hK O.rm (snd a O h3).se (snd b O h4).se (snd d O h5).se (behind_ok h2 _), fun _ hb => (by cases hb), rfl⟩
    · cases h
  | .and a b, M, W, X, x, O, h => by
    unfold mE at h
    split at h
    · rename_i y z r pos
      rw [Bool.and_eq_true] at h
      have ha := snd a O h.1
      cases r with
      | nil =>
        have hb := snd b O h.2
        have sw : (tst a && tst b) = true → SW c X W (.BoolOp .And [y, z] pos) (tr (evE G cl (.and a b))) := fun ht => by
          rw [Bool.and_eq_true] at ht
          exact sw_and (ha.sb ht.1) (sw_and1 (hb.sb ht.2))
        exact ⟨se_and O.hK O.rm ha.se (se_one hb.se), fun ht => (sw ht).pt, fun ht _ => sw ht, rfl⟩
      | cons t r =>
        have hb := snd b O h.2
        have sw : (tst a && tst b) = true → SW c X W (.BoolOp .And (y :: z :: t :: r) pos) (tr (evE G cl (.and a b))) := fun ht => by
          rw [Bool.and_eq_true] at ht
          exact sw_and (ha.sb ht.1) (hb.sw ht.2 rfl)
        exact ⟨se_and O.hK O.rm ha.se hb.se, fun ht => (sw ht).pt, fun ht _ => sw ht, rfl⟩
    · cases h
  | .or a b, M, W, X, x, O, h => by
    unfold mE at h
    split at h
    · rename_i y z r pos
      rw [Bool.and_eq_true] at h
      have ha := snd a O h.1
      cases r with
      | nil =>
        have hb := snd b O h.2
        have sw : (tst a && tst b) = true → SW c X W (.BoolOp .Or [y, z] pos) (tr (evE G cl (.or a b))) := fun ht => by
          rw [Bool.and_eq_true] at ht
          exact sw_or (ha.sb ht.1) (sw_or1 (hb.sb ht.2))
        exact ⟨se_or O.hK O.rm ha.se (se_one hb.se), fun ht => (sw ht).pt, fun ht _ => sw ht, rfl⟩
      | cons t r =>
        have hb := snd b O h.2
        have sw : (tst a && tst b) = true → SW c X W (.BoolOp .Or (y :: z :: t :: r) pos) (tr (evE G cl (.or a b))) := fun ht => by
          rw [Bool.and_eq_true] at ht
          exact sw_or (ha.sb ht.1) (hb.sw ht.2 rfl)
        exact ⟨se_or O.hK O.rm ha.se hb.se, fun ht => (sw ht).pt, fun ht _ => sw ht, rfl⟩
    · cases h
  | .not a, M, W, X, x, O, h => by
    unfold mE at h
    split at h
    · have ha := snd a O h
      exact ⟨se_not O.hK O.rm ha.se, fun ht => sb_not O.hK O.rm (ha.sb ht), fun _ hb => (by cases hb), rfl⟩
    · cases h
  | .ite p a b, M, W, X, x, O, h => by
    unfold mE at h
    split at h
    · simp only [Bool.and_eq_true] at h
      obtain ⟨⟨⟨h1, h2⟩, h3⟩, h4⟩ := h
      exact ⟨se_ite ((snd p O h2).sb h1) (snd a O h3).se (snd b O h4).se, fun ht => (by cases ht), fun ht => (by cases ht), rfl⟩
    · cases h
  | .ix a i, M, W, X, x, O, h => by
    unfold mE at h
    split at h
    · simp only [Bool.and_eq_true] at h
      obtain ⟨⟨h1, h2⟩, h3⟩ := h
      exact snd_pl O (se_ix O.hK O.rm (snd a O h2).se (snd i O h3).se (plainIx h1)) rfl rfl
    · cases h
  | .slc m a lo hi, M, W, X, x, O, h => by
    unfold mE at h
    split at h
    · simp only [Bool.and_eq_true] at h
      obtain ⟨⟨h1, h2⟩, h3⟩ := h
      exact snd_pl O (se_slc O.hK (snd a O h1).se (sndO lo O h2) (sndO hi O h3)) rfl rfl
    · cases h
  | .rev m a, M, W, X, x, O, h => by
    unfold mE at h
    split at h
    · simp only [Bool.and_eq_true, decide_eq_true_eq] at h
      obtain ⟨rfl, h1⟩ := h
      exact snd_pl O (se_rev O.hK (snd a O h1).se) rfl rfl
    · cases h
  | .call f es, M, W, X, x, O, h => by
    unfold mE at h
    split at h
    · simp only [Bool.and_eq_true, beq_iff_eq] at h
      obtain ⟨⟨⟨h1, h2⟩, h3⟩, h4⟩ := h
      obtain ⟨a, fd, ps, g1, g2, g3, g4⟩ := O.gb.fns _ _ h3
      have ha := sndEs es O h4
      rw [← O.hK] at g2 g3 g4
      exact snd_pl O (se_call (CX := L2.CX X.prog X.w) g4 (room_le O.rd (by omega)) (isGl_ok O h1) g1 g2 g3 O.tk ha.sa ha.nil ha.ns (okN_ok h2).1) rfl rfl
    · cases h
  | .new k es, M, W, X, x, O, h => by
    unfold mE at h
    split at h
    · simp only [Bool.and_eq_true, beq_iff_eq] at h
      obtain ⟨⟨⟨h1, h2⟩, h3⟩, h4⟩ := h
      obtain ⟨g1, f0, a, fd, ps, g2, g3, g4, g5⟩ := O.gb.cls _ _ h3
      have ha := sndEs es O h4
      rw [← O.hK] at g3 g4 g5
      exact snd_pl O (se_new g2 g3 g5 O.rd (isGl_ok O h1) g1 g4 O.tk ha.sa ha.nil ha.ns (okN_ok h2).1) rfl rfl
    · cases h
  | .mth m o es, M, W, X, x, O, h => by
    unfold mE at h
    split at h
    · simp only [Bool.and_eq_true, beq_iff_eq, decide_eq_true_eq] at h
      obtain ⟨⟨⟨⟨⟨h1, h2⟩, h3⟩, h4⟩, h5⟩, h6⟩ := h
      have ha := sndEs es O h6
      exact snd_pl O (se_mth O h1 (snd o O h5).se ha.sa ha.nil ha.ns h4 h2 (by rw [beq_iff_eq]; exact h3)) rfl rfl
    · cases h
  | .fld k j o, M, W, X, x, O, h => by
    unfold mE at h
    split at h
    · simp only [Bool.and_eq_true, beq_iff_eq] at h
      obtain ⟨⟨h1, h2⟩, h3⟩ := h
      obtain ⟨g1, g2, g3, g4, g5⟩ := O.gb.fld _ _ _ h1
      exact snd_pl O (se_fld O.hK (snd o O h3).se (base_ok h2 _ _) g2 g3 g4 g1) rfl rfl
    · cases h
  | .isi a t, M, W, X, x, O, h => by
    unfold mE at h
    split at h
    · simp only [Bool.and_eq_true, beq_iff_eq] at h
      obtain ⟨⟨⟨⟨rfl, rfl⟩, h1⟩, h2⟩, h3⟩ := h
      have ha := snd a O h3
      exact snd_pl O (se_isi O.hK ha.se ha.ns (isGl_ok O h1) (nob O (by decide +kernel)) (isGl_ok O h2) (nob O (by cases t <;> decide +kernel))) rfl rfl
    · cases h
  | .bf m b es, M, W, X, x, O, h => by
    unfold mE at h
    split at h
    · simp only [Bool.and_eq_true, beq_iff_eq] at h
      obtain ⟨⟨rfl, h1⟩, h2⟩ := h
      have ha := sndEs es O h2
      exact snd_pl O (se_bf O h1 ha.ns ha.sa) rfl rfl
    · cases h
  | .maxd a d, M, W, X, x, O, h => by unfold mE at h; cases h
  | .bt m b es, M, W, X, x, O, h => by
    unfold mE at h
    split at h
    · simp only [Bool.and_eq_true, beq_iff_eq] at h
      obtain ⟨⟨⟨h0, rfl⟩, h1⟩, h2⟩ := h
      have ha := sndEs es O h2
      exact snd_pl O (se_bt O h0 h1 ha.ns ha.sa) rfl rfl
    · cases h
  | .bm b o es, M, W, X, x, O, h => by
    unfold mE at h
    split at h
    · rename_i y name apos xs pos
      simp only [Bool.and_eq_true, beq_iff_eq] at h
      obtain ⟨⟨⟨⟨⟨rfl, h1⟩, h2⟩, h3⟩, h4⟩, h5⟩ := h
      have h2 : (apos.endLine == pos.line) = true := by rw [beq_iff_eq]; exact h2
      have ho := snd o O h3
      have hbase := base_ok h1 (Str.ofString (bmV b)) X.env
      have hes := sndEs es O h5
      split at h4
      · rename_i z
        cases es with
        | nil => unfold mEs at h5; cases h5
        | cons e es =>
          cases es with
          | cons e2 es => unfold mEs at h5; rw [Bool.and_eq_true] at h5; have h6 := h5.2; unfold mEs at h6; cases h6
          | nil =>
            unfold mEs at h5
            rw [Bool.and_eq_true] at h5
            have he := snd e O h5.1
            exact snd_pl O (se_append O.hK ho.se he.se hbase h2 (star_cons he.ns _ _)) rfl rfl
      · rename_i z
        cases es with
        | nil => unfold mEs at h5; cases h5
        | cons e es =>
          cases es with
          | cons e2 es => unfold mEs at h5; rw [Bool.and_eq_true] at h5; have h6 := h5.2; unfold mEs at h6; cases h6
          | nil =>
            unfold mEs at h5
            rw [Bool.and_eq_true] at h5
            have he := snd e O h5.1
            exact snd_pl O (se_extend O.hK ho.se he.se hbase h2 (star_cons he.ns _ _)) rfl rfl
      · rename_i z
        cases es with
        | nil => unfold mEs at h5; cases h5
        | cons e es =>
          cases es with
          | cons e2 es => unfold mEs at h5; rw [Bool.and_eq_true] at h5; have h6 := h5.2; unfold mEs at h6; cases h6
          | nil =>
            unfold mEs at h5
            rw [Bool.and_eq_true] at h5
            have he := snd e O h5.1
            exact snd_pl O (se_index O.hK O.rm ho.se he.se hbase h2 (star_cons he.ns _ _)) rfl rfl
      · rename_i z
        cases es with
        | nil => unfold mEs at h5; cases h5
        | cons e es =>
          cases es with
          | cons e2 es => unfold mEs at h5; rw [Bool.and_eq_true] at h5; have h6 := h5.2; unfold mEs at h6; cases h6
          | nil =>
            unfold mEs at h5
            rw [Bool.and_eq_true] at h5
            have he := snd e O h5.1
            exact snd_pl O (se_get1 O.hK O.rm ho.se he.se ⟨hbase, (by rw [star_cons he.ns]; rfl), h2, (by rw [star_cons he.ns]; rfl)⟩) rfl rfl
      · rename_i z
        cases es with
        | nil => unfold mEs at h5; cases h5
        | cons e es =>
          cases es with
          | cons e2 es => unfold mEs at h5; rw [Bool.and_eq_true] at h5; have h6 := h5.2; unfold mEs at h6; cases h6
          | nil =>
            unfold mEs at h5
            rw [Bool.and_eq_true] at h5
            have he := snd e O h5.1
            exact snd_pl O (se_join O.hK ho.se he.se hbase h2 (star_cons he.ns _ _)) rfl rfl
      · rename_i z z2
        cases es with
        | nil => unfold mEs at h5; cases h5
        | cons e es =>
          cases es with
          | nil => unfold mEs at h5; rw [Bool.and_eq_true] at h5; have h6 := h5.2; unfold mEs at h6; cases h6
          | cons e2 es =>
            cases es with
            | cons e3 es => unfold mEs at h5; rw [Bool.and_eq_true] at h5; have h6 := h5.2; unfold mEs at h6; rw [Bool.and_eq_true] at h6; have h7 := h6.2; unfold mEs at h7; cases h7
            | nil =>
              unfold mEs at h5
              rw [Bool.and_eq_true] at h5
              have h6 := h5.2
              unfold mEs at h6
              rw [Bool.and_eq_true] at h6
              have he := snd e O h5.1
              have he2 := snd e2 O h6.1
              exact snd_pl O (se_get2 O.hK O.rm ho.se he.se he2.se ⟨hbase, (by rw [star_cons he.ns, star_cons he2.ns]; rfl), h2, (by rw [star_cons he.ns, star_cons he2.ns]; rfl)⟩) rfl rfl
      · cases h4
    · cases h
  | .comp m own t it ifs e, M, W, X, x, O, h => by
    unfold mE at h
    split at h
    · rename_i y tg iter ys as scope pos
      simp only [Bool.and_eq_true, decide_eq_true_eq] at h
      obtain ⟨⟨⟨⟨⟨⟨⟨⟨h1, h2⟩, rfl⟩, h3⟩, h4⟩, h5⟩, h6⟩, h7⟩, h8⟩ := h
      split at h1
      · rename_i ol e1
        have eo := own_ok e1
        have hown : ∀ i ∈ tgs t, i ∈ ol.map (·.2) := fun i hi => by
          rw [eo]; simpa using List.all_eq_true.mp h2 i hi
        have bo : L2.BlkOk X.N X.env.scope scope ol := by rw [O.hN, O.sc]; exact L2.blkOk_by h1
        have nd : X.N.Nodup := by rw [O.hN]; exact O.nd
        have hg : ∀ s H C l fp, L2.PG (X.blk s H scope (PySem.compEnvC scope l C X.env) fp) tg (tgT c t) := fun s H C l fp => (mG_ok (blk_ok O) t h5).1
        have ht : ∀ s H C l fp, L2.PTs (X.blk s H scope (PySem.compEnvC scope l C X.env) fp) ys (tG c W0 RB (evC G cl ifs)) := fun s H C l fp => sndC ifs (blk_ok O) h7
        have he : ∀ s H C l fp, L2.PE (X.blk s H scope (PySem.compEnvC scope l C X.env) fp) y (tG c W0 (RU c) (evE G cl e)) := fun s H C l fp => (snd e (blk_ok O) h8).se
        subst eo
        rw [Bool.or_eq_true] at h6
        refine snd_pl O ?_ rfl rfl
        rcases h6 with h6 | h6
        · exact pe_weak (L2.pe_lc O.calm nd (sndI it O h5 h6) bo hg ht he (sIf h4 _)) (comp_law hown)
        · rw [Bool.and_eq_true] at h6
          obtain ⟨e0, pv, rfl, y0, hp, hP, elts, kk, tpos, rfl⟩ := sndII it O t h5 h6.1 h6.2
          have P0 := L2.pe_lc O.calm nd hP bo hg ht he (sIf h4 _) (pos := pos)
          exact pe_weak (pe_or2 (L2.pe_lock P0) P0) fun σ H Q ⟨w, ρ, e, ok, er, h⟩ => by
            subst e
            exact items_lock (g := fun p s => (compL (compF t (ol.map (·.2)) (evC G cl ifs) (evE G cl e) ρ) p.1 (s.lock p.2)).blk fun us s' => mkL m us (s'.unlock s.lk)) (T := fun Q J H1 => lcT (tgT c t) (tG c W0 RB (evC G cl ifs)) (tG c W0 (RU c) (evE G cl e)) (ol.map (·.2)) σ Q J H1) hp ok er h (fun p s => blk_ne fun _ _ _ _ _ => mkL_ne _ _ _) fun w1 p J Q ok1 er1 r h => comp_body hown ok1 er1 r h
      · cases h1
    · cases h
  | .dcomp m own t it ifs k e, M, W, X, x, O, h => by
    unfold mE at h
    split at h
    · rename_i z y tg iter ys as scope pos
      simp only [Bool.and_eq_true, decide_eq_true_eq] at h
      obtain ⟨⟨⟨⟨⟨⟨⟨⟨⟨h1, h2⟩, rfl⟩, h3⟩, h4⟩, h5⟩, h6⟩, h7⟩, h8⟩, h9⟩ := h
      split at h1
      · rename_i ol e1
        have eo := own_ok e1
        have hown : ∀ i ∈ tgs t, i ∈ ol.map (·.2) := fun i hi => by
          rw [eo]; simpa using List.all_eq_true.mp h2 i hi
        have bo : L2.BlkOk X.N X.env.scope scope ol := by rw [O.hN, O.sc]; exact L2.blkOk_by h1
        have nd : X.N.Nodup := by rw [O.hN]; exact O.nd
        have hg : ∀ s H C l fp, L2.PG (X.blk s H scope (PySem.compEnvC scope l C X.env) fp) tg (tgT c t) := fun s H C l fp => (mG_ok (blk_ok O) t h5).1
        have ht : ∀ s H C l fp, L2.PTs (X.blk s H scope (PySem.compEnvC scope l C X.env) fp) ys (tG c W0 RB (evC G cl ifs)) := fun s H C l fp => sndC ifs (blk_ok O) h7
        have hk : ∀ s H C l fp, L2.PE (X.blk s H scope (PySem.compEnvC scope l C X.env) fp) z (tG c W0 (RU c) (evE G cl k)) := fun s H C l fp => (snd k (blk_ok O) h8).se
        have he : ∀ s H C l fp, L2.PE (X.blk s H scope (PySem.compEnvC scope l C X.env) fp) y (tG c W0 (RU c) (evE G cl e)) := fun s H C l fp => (snd e (blk_ok O) h9).se
        subst eo
        rw [Bool.or_eq_true] at h6
        refine snd_pl O ?_ rfl rfl
        rcases h6 with h6 | h6
        · exact pe_weak (L2.pe_dc O.calm nd (sndI it O h5 h6) bo hg ht hk he (sIf h4 _)) (dcomp_law hown)
        · rw [Bool.and_eq_true] at h6
          obtain ⟨e0, pv, rfl, y0, hp, hP, elts, kk, tpos, rfl⟩ := sndII it O t h5 h6.1 h6.2
          have P0 := L2.pe_dc O.calm nd hP bo hg ht hk he (sIf h4 _) (pos := pos)
          exact pe_weak (pe_or2 (L2.pe_lock P0) P0) fun σ H Q ⟨w, ρ, e, ok, er, h⟩ => by
            subst e
            exact items_lock (g := fun p s => (compK (dcompF t (ol.map (·.2)) (evC G cl ifs) (evE G cl k) (evE G cl e) ρ) p.1 ([], []) (s.lock p.2)).blk fun q s' => mkK m q.1 q.2 (s'.unlock s.lk)) (T := fun Q J H1 => dcT (tgT c t) (tG c W0 RB (evC G cl ifs)) (tG c W0 (RU c) (evE G cl k)) (tG c W0 (RU c) (evE G cl e)) (ol.map (·.2)) σ Q J H1) hp ok er h (fun p s => blk_ne fun _ _ _ _ _ => mkK_ne _ _ _) fun w1 p J Q ok1 er1 r h => dcomp_body hown ok1 er1 r h
      · cases h1
    · cases h
  | .dnew, M, W, X, x, O, h => by
    unfold mE at h
    split at h
    · exact snd_pl O (pe_weak L2.pe_dnewK fun σ H Q ⟨w, ρ, e, ok, er, h⟩ => by
        subst e
        exact mkK_out (m := .cell) (ks := []) (us := []) (kvs := []) ok .nil (Nat.zero_le _) rfl List.nodup_nil h) rfl rfl
    · cases h
theorem sndEs : ∀ (es : List E) {M : Mc} {W : L2.XK} {X : Cx} {xs : List Expr}, XO c T G n cl M W X → mEs T M es xs = true → SndA c X W xs es (evEs G cl es)
  | [], M, W, X, xs, O, h => by
    unfold mEs at h
    split at h
    · exact ⟨sa_nil, rfl, rfl, fun _ => rfl⟩
    · cases h
  | e :: es, M, W, X, xs, O, h => by
    unfold mEs at h
    split at h
    · rw [Bool.and_eq_true] at h
      have h1 := snd e O h.1
      have h2 := sndEs es O h.2
      exact ⟨sa_cons h1.se h2.sa (star_cons h1.ns _ _), by rw [List.all_cons, h1.ns, h2.ns]; rfl, by rw [List.length_cons, List.length_cons, h2.len], fun q => by cases q⟩
    · cases h
theorem sndO : ∀ (o : Option E) {M : Mc} {W : L2.XK} {X : Cx} {x : Option Expr}, XO c T G n cl M W X → mO T M o x = true → SO c X W x (evO G cl o)
  | none, M, W, X, x, O, h => by
    unfold mO at h
    split at h
    · exact po_nil
    · cases h
  | some e, M, W, X, x, O, h => by
    unfold mO at h
    split at h
    · exact po_one (snd e O h).se
    · cases h
theorem sndC : ∀ (es : List E) {M : Mc} {W : L2.XK} {X : Cx} {xs : List Expr}, XO c T G n cl M W X → mC T M es xs = true → L2.PTs X xs (tG c W RB (evC G cl es))
  | [], M, W, X, xs, O, h => by
    unfold mC at h
    split at h
    · exact pts_weak L2.pts_nil fun σ H Q ⟨w, ρ, e, ok, er, h⟩ => by
        subst e
        exact OutE.ret (R := RB) ok h rfl
    · cases h
  | [e], M, W, X, xs, O, h => by
    unfold mC at h
    split at h
    · rw [Bool.and_eq_true] at h
      exact L2.pts_one ((snd e O h.2).sb h.1)
    · cases h
  | _ :: _ :: _, M, W, X, xs, O, h => by unfold mC at h; cases h
theorem sndI : ∀ (it : It) {M : Mc} {W : L2.XK} {X : Cx} {t : Tg} {tg x : Expr} {M' : Mc}, XO c T G n cl M W X → mG M' t tg = true → mI T M t it x = true → SI c X W tg x (evI G cl it)
  | .of e, M, W, X, t, tg, x, M', O, hg, h => by
    unfold mI at h
    exact si_of O.hK (snd e O h).se
  | .enum e, M, W, X, t, tg, x, M', O, hg, h => by
    unfold mI at h
    split at h
    · simp only [Bool.and_eq_true, beq_iff_eq] at h
      obtain ⟨⟨rfl, h1⟩, h2⟩ := h
      unfold mG at hg
      split at hg
      · have he := snd e O h2
        exact si_enum O.hK (isGl_ok O h1) (nob O (by decide +kernel)) he.se he.ns
      · cases hg
    · cases h
  | .zip a b, M, W, X, t, tg, x, M', O, hg, h => by
    unfold mI at h
    split at h
    · simp only [Bool.and_eq_true, beq_iff_eq] at h
      obtain ⟨⟨⟨rfl, h1⟩, h2⟩, h3⟩ := h
      unfold mG at hg
      split at hg
      · have he := snd a O h2
        have he2 := snd b O h3
        exact si_zip O.hK (isGl_ok O h1) (nob O (by decide +kernel)) he.se he2.se he.ns he2.ns
      · cases hg
    · cases h
  | .rng1 a, M, W, X, t, tg, x, M', O, hg, h => by
    unfold mI at h
    split at h
    · simp only [Bool.and_eq_true, beq_iff_eq] at h
      obtain ⟨⟨rfl, h1⟩, h2⟩ := h
      have he := snd a O h2
      exact si_rng1 (isGl_ok O h1) (nob O (by decide +kernel)) he.se he.ns
    · cases h
  | .rng2 a b, M, W, X, t, tg, x, M', O, hg, h => by
    unfold mI at h
    split at h
    · simp only [Bool.and_eq_true, beq_iff_eq] at h
      obtain ⟨⟨⟨rfl, h1⟩, h2⟩, h3⟩ := h
      have he := snd a O h2
      have he2 := snd b O h3
      exact si_rng2 (isGl_ok O h1) (nob O (by decide +kernel)) he.se he2.se he.ns he2.ns
    · cases h
  | .rng3 _ _ _, M, W, X, t, tg, x, M', O, hg, h => by unfold mI at h; cases h
  | .items _, M, W, X, t, tg, x, M', O, hg, h => by unfold mI at h; cases h
end
end
end Z
end

section
set_option autoImplicit false
set_option linter.all false
set_option maxRecDepth 100000
namespace Z
open PySem (Str sizeLine Value Addr PyData Expr Scope)
open L2 (V HO Hp Key Cx)
section
variable {c : Cfg} {T : Tb} {G : Pg} {n : Nat} {cl : Nat → List U → Stk → RE U} {M : Mc} {W : L2.XK} {X : Cx}
structure XS (c : Cfg) (T : Tb) (G : Pg) (n : Nat) (cl : Nat → List U → Stk → RE U) (M : Mc) (W : L2.XK) (X : Cx) : Prop extends XO c T G n cl M W X where
  po : PySem.PassesOwn (PySem.model X.prog X.w) X.A X.env X.xe
  stk : X.stack = X.env :: X.outer
  frm : X.env.frame = some X.env.locals
theorem XS.tr (O : XS c T G n cl M W X) {W' : L2.XK} {pn : List (Addr × PySem.Obj)} {xe : Value → PySem.Shared → Prop} (tk : Tk (X.tr pn xe) W') (hp : PySem.PassesOwn (PySem.model X.prog X.w) X.A X.env xe) : XS c T G n cl M W' (X.tr pn xe) where
  hK := O.hK
  hN := O.hN
  nd := O.nd
  sc := O.sc
  fn := O.fn
  rm := O.rm
  rd := O.rd
  calm := O.calm
  tk := tk
  gb := O.gb
  po := hp
  stk := O.stk
  frm := O.frm
theorem sw_none {e : Expr} (h : notComp e = true) (t : Option Expr) (l : Nat) (env : PySem.Env) : PySem.swapsWith e t l env = pure false := by
  cases e <;> first | rfl | cases h
theorem sw_attr (e : Expr) (o : Expr) (f : Str) (p : PySem.Pos) (l : Nat) (env : PySem.Env) : PySem.swapsWith e (some (.Attribute o f p)) l env = pure false := by
  cases e <;> rfl
theorem sst_sub (e : Expr) (o i : Expr) (p : PySem.Pos) (env : PySem.Env) : PySem.swappedStores [.Subscript o i p] e env = pure none := by
  cases e <;> rfl
theorem sst_no {tg e : Expr} (h : notTup e = true) (env : PySem.Env) : PySem.swappedStores [tg] e env = pure none := by
  cases e <;> first | (cases h; done) | (cases tg <;> rfl)
theorem sst_nt {tg e : Expr} (h : notTup tg = true) (hl : ∀ xs p, tg ≠ .List xs p) (env : PySem.Env) : PySem.swappedStores [tg] e env = pure none := by
  cases tg <;> first | (cases h; done) | (exact absurd rfl (hl _ _)) | (cases e <;> rfl)
theorem mG_nl {t : Tg} {tg : Expr} (h : mG M t tg = true) : ∀ xs p, tg ≠ .List xs p := fun xs p e => by
  subst e
  cases t with
  | name i => unfold mG at h; cases h
  | tup ts => unfold mG at h; cases h
theorem mXE_ok (O : XO c T G n cl M W X) {i : Nat} {a : Addr} {oe : PySem.Obj} {cls : Value} {d : Option Addr} {pn : List (Addr × PySem.Obj)} (hz : L2.Zc cls d oe) (hf : ∃ vs, oe.data = .fields vs) :
    ∀ (e : XE) {x : Expr}, mXE T M i e x = true → L2.PE (X.suite a ((a, oe) :: pn)) x (suE c i a cls d e) ∧ notStar x = true
  | .lit y, x, h => by
    unfold mXE at h
    split at h
    · obtain ⟨v, h1, h2⟩ := mLit_ok (X.suite a ((a, oe) :: pn)) h _ _
      refine ⟨pe_weak h1 fun σ H Q ⟨w, k, vs, z, s, e, q⟩ => ?_, rfl⟩
      rw [evXE] at e; cases e
      rw [← s.h]
      exact q w v rfl s.ok (.refl w) (.d (h2 w))
    · cases h
  | .fld k j, x, h => by
    unfold mXE at h
    split at h
    · simp only [Bool.and_eq_true, beq_iff_eq] at h
      obtain ⟨⟨h1, h2⟩, h3⟩ := h
      obtain ⟨g1, g2, g3, g4⟩ := mVar_ok O h1
      have hk : k ∈ c.xs := by rw [O.gb.xsT]; simpa using h3
      exact ⟨su_fld O.hK O.gb.exs hk g1 g2 g3 g4 (by rw [O.gb.xfl k hk]; exact h2) hz hf, rfl⟩
    · cases h
  | .tup es, x, h => by
    unfold mXE at h
    split at h
    · simp only [Bool.and_eq_true, decide_eq_true_eq] at h
      have := mXEs_ok (a := a) (pn := pn) hz hf es h.1
      exact ⟨su_tup this.1 (Nat.le_trans (by rw [← this.2.2]; exact h.2) (by decide)), rfl⟩
    · cases h
where
  mXEs_ok {i : Nat} {a : Addr} {oe : PySem.Obj} {cls : Value} {d : Option Addr} {pn : List (Addr × PySem.Obj)} (hz : L2.Zc cls d oe) (hf : ∃ vs, oe.data = .fields vs) :
    ∀ (es : List XE) {xs : List Expr}, mXE.mXEs T M i es xs = true → L2.PA (X.suite a ((a, oe) :: pn)) xs (suEs c i a cls d es) ∧ xs.all notStar = true ∧ xs.length = es.length
  | [], xs, h => by
    unfold mXE.mXEs at h
    split at h
    · exact ⟨su_nil, rfl, rfl⟩
    · cases h
  | e :: es, xs, h => by
    unfold mXE.mXEs at h
    split at h
    · rw [Bool.and_eq_true] at h
      have h1 := mXE_ok O (a := a) (pn := pn) hz hf e h.1
      have h2 := mXEs_ok (a := a) (pn := pn) hz hf es h.2
      exact ⟨su_cons h1.1 h2.1 h1.2, by rw [List.all_cons, h1.2, h2.2.1]; rfl, by rw [List.length_cons, List.length_cons, h2.2.2]⟩
    · cases h
theorem lookup_snd {α β : Type} [BEq α] [LawfulBEq α] : ∀ {l : List (α × β)} {x : α} {y : β}, l.lookup x = some y → y ∈ l.map (·.2)
  | [], _, _, h => by cases h
  | (a, b) :: l, x, y, h => by
    rw [List.lookup_cons] at h
    split at h
    · cases h; exact List.mem_cons_self ..
    · exact List.mem_cons_of_mem _ (lookup_snd h)
theorem mX_ok (O : XO c T G n cl M W X) {i : Nat} {a : Addr} {oe : PySem.Obj} {cls : Value} {d : Option Addr} {pn : List (Addr × PySem.Obj)} (hz : L2.Zc cls d oe) (hf : ∃ vs, oe.data = .fields vs) :
    ∀ (b : Z.X) {x : Expr}, mX T M i b x = true → L2.PT (X.suite a ((a, oe) :: pn)) x (suT c G i a cls d b) ∧ (isBO x = true → L2.PW (X.suite a ((a, oe) :: pn)) x (suT c G i a cls d b))
  | .isi dc, x, h => by
    unfold mX at h
    split at h
    · simp only [Bool.and_eq_true, beq_iff_eq] at h
      obtain ⟨⟨⟨⟨⟨rfl, h1⟩, h2⟩, h3⟩, h4⟩, h5⟩ := h
      obtain ⟨g1, g2, g3, g4⟩ := mVar_ok O h2
      refine ⟨su_isV O.hK O.gb.exs g1 g2 g3 g4 (isGl_ok O h1) (nob O (by decide +kernel)) hz hf (L2.pe_glob (X := X.suite a ((a, oe) :: pn)) (v := .ref (c.ca dc)) (isGl_ok O h3) (O.gb.xcs _ _ h5) rfl (okN_ok h4).1) rfl (cv := .ref (c.ca dc)) (fun u r => r) fun k hk => (O.gb.exs.sub k hk dc (lookup_snd h5)).2, fun q => by cases q⟩
    · cases h
  | .isB t, x, h => by
    unfold mX at h
    split at h
    · simp only [Bool.and_eq_true, beq_iff_eq] at h
      obtain ⟨⟨⟨⟨rfl, h1⟩, h2⟩, h3⟩, rfl⟩ := h
      obtain ⟨g1, g2, g3, g4⟩ := mVar_ok O h2
      refine ⟨su_isV O.hK O.gb.exs g1 g2 g3 g4 (isGl_ok O h1) (nob O (by decide +kernel)) hz hf (L2.pe_bltn (X := X.suite a ((a, oe) :: pn)) (v := .ty "ValueError") (isGl_ok O h3) (nob O (by decide +kernel)) (u := .type "ValueError") (by decide +kernel) rfl (by decide +kernel) (by decide +kernel)) rfl (cv := .type "ValueError") (fun u r => r) fun k hk => O.gb.exs.subV k hk, fun q => by cases q⟩
    · cases h
  | .not b, x, h => by
    unfold mX at h
    split at h
    · exact ⟨su_not (mX_ok O hz hf b h).1, fun q => by cases q⟩
    · cases h
  | .or b b2, x, h => by
    unfold mX at h
    split at h
    · rename_i y z r pos
      rw [Bool.and_eq_true] at h
      have h1 := mX_ok O (a := a) (pn := pn) hz hf b h.1
      cases r with
      | nil =>
        have h2 := mX_ok O (a := a) (pn := pn) hz hf b2 h.2
        have := su_or (pos := pos) h1.1 (su_or1 h2.1)
        exact ⟨this.pt, fun _ => this⟩
      | cons t r =>
        have h2 := mX_ok O (a := a) (pn := pn) hz hf b2 h.2
        have := su_or (pos := pos) h1.1 (h2.2 rfl)
        exact ⟨this.pt, fun _ => this⟩
    · cases h
theorem mSu_ok (O : XO c T G n cl M W X) {i : Nat} {a : Addr} {oe : PySem.Obj} {cls : Value} {d : Option Addr} {pn : List (Addr × PySem.Obj)} (hz : L2.Zc cls d oe) (hf : ∃ vs, oe.data = .fields vs) :
    ∀ (sus : List Su) {xs : List PySem.Stmt}, mSu T M i sus xs = true → L2.PSs (X.suite a ((a, oe) :: pn)) xs (tSu c G i a cls d sus)
  | [], xs, h => by
    unfold mSu at h
    split at h
    · exact sus_nil
    · cases h
  | .ifr b e :: r, xs, h => by
    unfold mSu at h
    split at h
    · simp only [Bool.and_eq_true] at h
      exact sus_ifr (mX_ok O hz hf b h.1.1).1 (mXE_ok O hz hf e h.1.2).1 (mSu_ok O hz hf r h.2)
    · cases h
  | .ret e :: r, xs, h => by
    unfold mSu at h
    split at h
    · exact sus_ret (mXE_ok O hz hf e h).1
    · cases h
theorem sw_lc {e : Expr} {gs : List PySem.Comprehension} {scope : Scope} {pos py : PySem.Pos} {y : Str} {l : Nat} (O : XO c T G n cl M W X) (h : swB M y py (.ListComp e gs scope pos) scope = true) : PySem.swapsWith (.ListComp e gs scope pos) (some (.Name y py)) l X.env = pure true ∧ X.env.scope.names.lookup y = some .local := by
  unfold swB at h
  simp only [Bool.and_eq_true, decide_eq_true_eq, beq_iff_eq] at h
  obtain ⟨⟨⟨h1, h2⟩, h3⟩, h4⟩ := h
  have hl : X.env.scope.names.lookup y = some .local := by rw [O.sc]; exact h2
  exact ⟨L2.sw_true (by rw [O.sc]; exact h1) hl (by rw [beq_iff_eq]; exact h3) (by simpa using h4), hl⟩
theorem mE_lc {e : E} {elt : Expr} {gs : List PySem.Comprehension} {sc : Scope} {p : PySem.Pos} (h : mE T M e (.ListComp elt gs sc p) = true) : ∃ m own t it ifs e', e = .comp m own t it ifs e' := by
  cases e <;> first | exact ⟨_, _, _, _, _, _, rfl⟩ | (exfalso; revert h; unfold mE; simp; done)
theorem ss_lc (O : XS c T G n cl M W X) {t : Tg} {e : E} {elt : Expr} {gs : List PySem.Comprehension} {sc : Scope} {p pp pos : PySem.Pos} {id : Str} (h1 : mG M t (.Name id pp) = true) (h : mE T M e (.ListComp elt gs sc p) = true) (hsw : swB M id pp (.ListComp elt gs sc p) sc = true) :
    SS c X W (.Assign [.Name id pp] (.ListComp elt gs sc p) pos) (evS G cl (.set t e)) := by
  obtain ⟨m, own, t', it, ifs, e, rfl⟩ := mE_lc h
  obtain ⟨s1, s2⟩ := sw_lc O.toXO hsw (l := pos.line)
  cases t with
  | tup ts => unfold mG at h1; cases h1
  | name i =>
    unfold mG at h1
    simp only [Bool.and_eq_true, beq_iff_eq] at h1
    obtain ⟨hi, hl⟩ := h1
    unfold mE at h
    split at h
    · rename_i y tg iter ys as scope pos e0
      cases e0
      simp only [Bool.and_eq_true, decide_eq_true_eq] at h
      obtain ⟨⟨⟨⟨⟨⟨⟨⟨h1, h2⟩, rfl⟩, h3⟩, h4⟩, h5⟩, h6⟩, h7⟩, h8⟩ := h
      split at h1
      · rename_i ol e1
        have eo := own_ok e1
        have hown : ∀ i ∈ tgs t', i ∈ ol.map (·.2) := fun i hi => by
          rw [eo]; simpa using List.all_eq_true.mp h2 i hi
        have bo : L2.BlkOk X.N X.env.scope sc ol := by rw [O.hN, O.sc]; exact L2.blkOk_by h1
        have nd : X.N.Nodup := by rw [O.hN]; exact O.nd
        have hg : ∀ s H C l fp, L2.PG (X.blk s H sc (PySem.compEnvC sc l C X.env) fp) tg (tgT c t') := fun s H C l fp => (mG_ok (blk_ok O.toXO) t' h5).1
        have ht : ∀ s H C l fp, L2.PTs (X.blk s H sc (PySem.compEnvC sc l C X.env) fp) ys (tG c W0 RB (evC G cl ifs)) := fun s H C l fp => sndC ifs (blk_ok O.toXO) h7
        have he : ∀ s H C l fp, L2.PE (X.blk s H sc (PySem.compEnvC sc l C X.env) fp) elt (tG c W0 (RU c) (evE G cl e)) := fun s H C l fp => (snd e (blk_ok O.toXO) h8).se
        subst eo
        rw [Bool.or_eq_true] at h6
        refine ss_set ?_
        rcases h6 with h6 | h6
        · exact ps_weak (L2.ps_setLc O.calm nd (by rw [O.hN]; exact hi) s2 s1 (sndI it O.toXO h5 h6) bo hg ht he (sIf h4 _)) fun D σ H h => comp_law hown σ H _ h
        · rw [Bool.and_eq_true] at h6
          obtain ⟨e0, pv, rfl, y0, hp, hP, elts, kk, tpos, rfl⟩ := sndII it O.toXO t' h5 h6.1 h6.2
          have P0 := L2.ps_setLc O.calm nd (by rw [O.hN]; exact hi) s2 s1 hP bo hg ht he (sIf h4 _)
          refine ps_weak (ps_or2 (L2.ps_lock P0) P0) fun D σ H h => ?_
          obtain ⟨w, ρ, e, ok, er, h⟩ := h
          subst e
          exact items_lock (g := fun p s => (compL (compF t' (ol.map (·.2)) (evC G cl ifs) (evE G cl e) ρ) p.1 (s.lock p.2)).blk fun us s' => mkL m us (s'.unlock s.lk)) (T := fun Q J H1 => lcT (tgT c t') (tG c W0 RB (evC G cl ifs)) (tG c W0 (RU c) (evE G cl e)) (ol.map (·.2)) σ Q J H1) hp ok er h (fun p s => blk_ne fun _ _ _ _ _ => mkL_ne _ _ _) fun w1 p J Q ok1 er1 r h => comp_body hown ok1 er1 r h
      · cases h1
    · cases h
mutual
theorem sndS : ∀ (st : St) {M : Mc} {W : L2.XK} {X : Cx} {x : PySem.Stmt}, XS c T G n cl M W X → mS T M st x = true → SS c X W x (evS G cl st)
  | .set t e, M, W, X, x, O, h => by
    unfold mS at h
    split at h
    · rename_i tg y pos
      simp only [Bool.and_eq_true] at h
      obtain ⟨⟨h1, h2⟩, h3⟩ := h
      have hg := mG_ok O.toXO t h1
      have he := snd e O.toXO h2
      split at h3
      · rename_i elt gs sc p
        split at h3
        · rename_i id pp
          exact ss_lc O h1 h2 h3
        · cases h3
      · cases h3
      · cases h3
      · exact ss_asg he.se hg.1 hg.2 rfl (sst_nt h3 (mG_nl h1) _)
      · rename_i q1 q2 q3 q4
        have hc : notComp y = true := by cases y <;> first | rfl | (exact absurd rfl (q1 _ _ _ _)) | (exact absurd rfl (q2 _ _ _ _)) | (exact absurd rfl (q3 _ _ _ _ _))
        have ht : notTup y = true := by cases y <;> first | rfl | (exact absurd rfl (q4 _ _ _))
        exact ss_asg he.se hg.1 hg.2 (sw_none hc _ _ _) (sst_no ht _)
    · simp only [Bool.and_eq_true] at h
      obtain ⟨⟨h1, h2⟩, h3⟩ := h
      exact ss_ann (snd e O.toXO h2).se (mG_ok O.toXO t h1).1 (sw_none h3 _ _ _)
    · cases h
  | .par is es, M, W, X, x, O, h => by unfold mS at h; cases h
  | .aug i o e, M, W, X, x, O, h => by
    unfold mS at h
    split at h
    · simp only [Bool.and_eq_true, Bool.or_eq_true, decide_eq_true_eq, beq_iff_eq] at h
      obtain ⟨⟨⟨⟨h1, h2⟩, rfl⟩, h4⟩, h5⟩ := h
      have hl := isLoc_ok O.toXO h2
      exact ss_aug (or_assoc.mp h4) (by rw [O.hN]; exact O.nd) (by rw [O.hN]; exact h1) hl.1 (snd e O.toXO h5).se hl.2
    · cases h
  | .exp e, M, W, X, x, O, h => by
    unfold mS at h
    split at h
    · rw [Bool.and_eq_true] at h
      exact ss_exp (snd e O.toXO h.2).se (sw_none h.1 _ _ _)
    · cases h
  | .ret e, M, W, X, x, O, h => by
    unfold mS at h
    split at h
    · exact ss_ret (snd e O.toXO h).se
    · cases h
  | .retN, M, W, X, x, O, h => by
    unfold mS at h
    split at h
    · exact ss_retN
    · cases h
  | .ife p a b, M, W, X, x, O, h => by
    unfold mS at h
    split at h
    · simp only [Bool.and_eq_true] at h
      obtain ⟨⟨⟨h1, h2⟩, h3⟩, h4⟩ := h
      exact ss_ife ((snd p O.toXO h2).sb h1) (sndSs a O h3) (sndSs b O h4)
    · cases h
  | .for t it b, M, W, X, x, O, h => by
    unfold mS at h
    split at h
    · simp only [Bool.and_eq_true] at h
      obtain ⟨⟨⟨h1, h2⟩, h3⟩, h4⟩ := h
      exact ss_for O.po O.calm (sndI it O.toXO h1 h2) (mG_ok O.toXO t h1).1 (sndSs b O h4) (sIf h3 _)
    · cases h
  | .whl k p b, M, W, X, x, O, h => by
    unfold mS at h
    split at h
    · simp only [Bool.and_eq_true] at h
      obtain ⟨⟨h1, h2⟩, h3⟩ := h
      exact ss_whl O.po ((snd p O.toXO h2).sb h1) (sndSs b O h3)
    · cases h
  | .raise k es, M, W, X, x, O, h => by
    unfold mS at h
    split at h
    · simp only [Bool.and_eq_true, beq_iff_eq] at h
      obtain ⟨⟨⟨⟨h1, h2⟩, h3⟩, h4⟩, h5⟩ := h
      have hk : k ∈ c.xs := by rw [O.gb.xsT]; simpa using h4
      obtain ⟨f, a, fd, ps, g1, g2, g3, g4, g5, g6, g7⟩ := O.gb.rse k hk
      have ha := sndEs es O.toXO h5
      rw [← O.hK] at g3 g4 g5 g6 g7
      have hn := ha.ns
      rw [List.all_cons, Bool.and_eq_true] at hn
      exact ss_raise (fn := 0) O.calm O.tk g3 g4 g5 g7 O.rd g6 (isGl_ok O.toXO h1) (O.gb.xcs _ _ h3) hk g1 g2 ha.sa hn.1 (okN_ok h2).1
    · cases h
  | .setix o i e, M, W, X, x, O, h => by
    unfold mS at h
    split at h
    · simp only [Bool.and_eq_true] at h
      obtain ⟨⟨⟨⟨h1, h2⟩, h3⟩, h4⟩, h5⟩ := h
      have he := snd e O.toXO h3
      exact ss_setix O.rm (snd o O.toXO h4).se (snd i O.toXO h5).se he.se h2 he.ns (sw_none h1 _ _ _) (sst_sub _ _ _ _ _)
    · cases h
  | .setfld o k j e, M, W, X, x, O, h => by
    unfold mS at h
    split at h
    · simp only [Bool.and_eq_true, beq_iff_eq] at h
      obtain ⟨⟨h1, h2⟩, h3⟩ := h
      obtain ⟨g1, g2, g3, g4, g5⟩ := O.gb.fld _ _ _ h1
      exact ss_setfld O.hK (snd o O.toXO h3).se (snd e O.toXO h2).se (sw_attr _ _ _ _ _ _) g2 g3 g4 g1 g5
    · cases h
  | .try b hs, M, W, X, x, O, h => by
    unfold mS at h
    split at h
    · rename_i ys id np v s0 suite p1 p2
      rw [Bool.and_eq_true] at h
      obtain ⟨h, hb⟩ := h
      split at h
      · rename_i dc i sus
        simp only [Bool.and_eq_true, beq_iff_eq] at h
        obtain ⟨⟨⟨⟨⟨h1, h2⟩, h3⟩, h4⟩, h5⟩, h6⟩ := h
        refine ss_try1 O.gb.exs O.hK O.stk O.frm (by rw [O.hN]; exact O.nd) (by rw [O.hN]; exact h1) (by show List.lookup v X.env.scope.names = _; rw [O.sc]; exact h2) (lookup_snd h5) ⟨isGl_ok O.toXO h3, (okN_ok h4).1, .inl (O.gb.xcs _ _ h5)⟩ O.tk (fun W' pn xe tk hp => sndSs b (O.tr tk hp) hb) fun a oe cls d pn hz hf => mSu_ok O.toXO hz hf sus h6
      · cases h
    · cases h
  | .cont, M, W, X, x, O, h => by
    unfold mS at h
    split at h
    · exact ss_cnt
    · cases h
  | .brk, M, W, X, x, O, h => by
    unfold mS at h
    split at h
    · exact ss_brk
    · cases h
  | .pass, M, W, X, x, O, h => by
    unfold mS at h
    split at h
    · exact ss_nx L2.ps_pass
    · exact ss_nx L2.ps_doc
    · cases h
theorem sndSs : ∀ (ss : List St) {M : Mc} {W : L2.XK} {X : Cx} {xs : List PySem.Stmt}, XS c T G n cl M W X → mSs T M ss xs = true → SSs c X W xs (evSs G cl ss)
  | [], M, W, X, xs, O, h => by
    unfold mSs at h
    split at h
    · exact sss_nil
    · cases h
  | s :: ss, M, W, X, xs, O, h => by
    unfold mSs at h
    split at h
    · rw [Bool.and_eq_true] at h
      exact sss_cons (sndS s O h.1) (sndSs ss O h.2)
    · cases h
end
end
end Z
end

section
set_option autoImplicit false
set_option linter.all false
set_option maxRecDepth 100000
namespace Z
open PySem (Str sizeLine Value Addr PyData Expr Scope)
open L2 (V HO Hp Key Cx)
section
variable {c : Cfg} {T : Tb} {G : Pg} {n : Nat} {P : PySem.Program} {w : PySem.World} {mg : Str → Option Value} {base : PySem.Heap}
theorem pop_of {w w' : Wd} (ok : OkW c w) (ok' : OkW c w') (x : Ext w.push w') : OkW c w'.pop ∧ Ext w w'.pop ∧ Keeps w'.H w'.pop.H (Live w') (Live w'.pop) :=
  ⟨Wd.pop_ok ok' (fun z => by have := x.len; rw [z] at this; cases this), Wd.pop_ext ok ok' x, Wd.pop_keeps⟩
theorem RX.pop {w : Wd} {k : Nat} {vs : List Z.D} {cls : Value} {dx : Option Addr} (h : RX c w k vs cls dx) : RX c w.pop k vs cls dx := by
  obtain ⟨h1, hx, h2⟩ := h
  refine ⟨h1, hx, ?_⟩
  split at h2
  · rename_i e; rw [if_pos e]; exact h2
  · rename_i e
    rw [if_neg e]
    obtain ⟨dd, fs, q1, q2, q3, q4, q5⟩ := h2
    exact ⟨dd, fs, q1, q2, fun l => q3 (Wd.pop_live l), q4, q5.mono Wd.pop_keeps⟩
theorem push_env {w : Wd} {us : List U} {vs : List V} {N : List Str} {np ns : Nat} (rs : RUs c w us vs) (h1 : us.length = np) (h2 : ns = N.length) : EnvR c w.push (us.map some ++ List.replicate (ns - np) none) (L2.start N vs) := by
  have hl := rs.length
  unfold L2.start
  refine ⟨by simp [hl, h2, ← h1], fun i u e => ?_⟩
  rw [List.getElem?_append] at e
  split at e
  · rename_i hi
    rw [List.getElem?_map, Option.map_eq_some_iff] at e
    obtain ⟨u', e, eu⟩ := e
    cases eu
    obtain ⟨v, e2, r⟩ := rs.get e
    refine ⟨v, ?_, r.mono' (w := w) (w' := w.push) Wd.push_keeps Wd.push_io⟩
    rw [List.getElem?_append_left (by simp; rw [← hl]; simpa using hi), List.getElem?_map, e2]
    rfl
  · rw [List.getElem?_replicate] at e
    split at e <;> cases e
theorem fn_ok {lv id : Nat} {x qual : Str} {st : PySem.Stmt} {f : Addr} {fd : PySem.FuncData} {N ps : List Str} {np ns : Nat} {body : List St} (gb : Gb c T G n (call G n) P w mg base) (F : L2.Fun c.K x qual st f fd) (S : L2.FnScope N ps (L2.defScope st)) (hf : G.fn id = some ⟨np, ns, body⟩) (hp : np = ps.length) (hs : ns = N.length)
    (hm : mSs T ⟨L2.defScope st, N, fun _ => true⟩ body (L2.defBody st) = true) : L2.FnOk P w c.K mg base (L2.CX P w) (2 * (n + 1) + 1) f fd ps (spF c (call G (n + 1) id)) := by
  refine L2.Fun.okX (k := 2 * n + 2) F S ?_ ?_
  · intro vs H Q E ⟨w0, us, e, ok, rs, h⟩
    rw [call, hf] at h
    simp only at h
    split at h
    · rename_i hl; rw [← rs.length, hl, hp]
    · exact h.elim
  · intro cdv A outer s H vs Q E hr ⟨w0, us, e, ok, rs, h⟩
    rw [call, hf] at h
    simp only at h
    split at h
    · rename_i hl
      refine ⟨tS c E (evSs G (call G n) body), ?_, ?_⟩
      · refine sndSs (c := c) (T := T) (G := G) (n := n) (cl := call G n) body (M := ⟨L2.defScope st, N, fun _ => true⟩) (W := E) ⟨⟨rfl, rfl, S.nd, rfl, rfl, ?_, hr, rfl, ?_, gb⟩, ?_, rfl, rfl⟩ hm
        · have := hr.un
          show (A.deeper (PyProof.Rows.envOfC qual (L2.defScope st) s.heap.objs.size f cdv)).units + 150 < PySem.cLine
          omega
        · exact L2.takes_of rfl rfl rfl rfl
        · exact L2.passes_of rfl
      · subst e
        refine ⟨w0.push, _, rfl, Wd.push_ok ok, push_env rs hl hs, ?_⟩
        show OutS c E _ w0.push (evSs G (call G n) body _ ⟨[] :: w0.s.rs, w0.s.lk⟩)
        cases e : evSs G (call G n) body (us.map some ++ List.replicate (ns - np) none) ⟨[] :: w0.s.rs, w0.s.lk⟩ with
        | nx ρ s =>
          rw [e] at h
          intro w' σ' es ok' x' er
          obtain ⟨a1, a2, a3⟩ := pop_of ok ok' x'
          exact h w'.pop .non (by rw [← es]; rfl) a1 a2 (.d .non)
        | ret u s =>
          rw [e] at h
          intro w' v es ok' x' r
          replace h : OutE c E w0 (RU c) ((frzU 4 s u).bind fun x s => .ok x ⟨s.rs.tail, s.lk⟩) Q := h
          unfold frzU at h
          rw [← es] at h
          cases e3 : frz 4 w'.s u with
          | none => rw [e3] at h; exact h.elim
          | some q =>
            obtain ⟨z, s4⟩ := q
            rw [e3] at h
            obtain ⟨o1, o2, o3⟩ := frz_ok 4 w' _ _ z s4 ok' r e3
            obtain ⟨a1, a2, a3⟩ := pop_of ok o1 (x'.trans o2)
            exact h (w'.st s4).pop v rfl a1 a2 (.d (o3.mono a3))
        | brk ρ s => rw [e] at h; exact h.elim
        | cnt ρ s => rw [e] at h; exact h.elim
        | ex k vs s =>
          rw [e] at h
          intro w' cls dx es ok' x' rx
          obtain ⟨a1, a2, a3⟩ := pop_of ok ok' x'
          exact h w'.pop cls dx (by rw [← es]; rfl) a1 a2 rx.pop
        | no => rw [e] at h; exact h.elim
    · exact h.elim
/-- an error's own __init__ -/
def mInit (N : List Str) (f : Str) (st : PySem.Stmt) : Bool := match L2.defBody st with
  | [.Assign [.Attribute (.Name a _) g _] (.Name b _) _] => g == f && N[0]? == some a && N[1]? == some b && isVis (L2.defScope st) a && isVis (L2.defScope st) b && okN a && okN b
  | _ => false
theorem init_ok {lv k : Nat} {x qual f : Str} {st : PySem.Stmt} {a : Addr} {fd : PySem.FuncData} {N ps : List Str} (F : L2.Fun c.K x qual st a fd) (S : L2.FnScope N ps (L2.defScope st)) (hp : ps.length = 2) (hN : N.length = 2) (hm : mInit N f st = true) (h1 : L2.OexC c.K (c.ca k)) (h2 : PySem.W.findIn c.K (.ref (c.ca k)) f = some none) :
    L2.FnOk P w c.K mg base (L2.CX P w) (lv + 1) a fd ps (spX c k f) := by
  refine L2.Fun.okX (k := lv) F S ?_ ?_
  · intro vs H Q E ⟨a, y, e, _⟩
    rw [e, hp]; rfl
  · intro cdv A outer s H vs Q E hr ⟨b, y, e, hb, q⟩
    unfold mInit at hm
    split at hm
    · rename_i x1 p1 x2 p2 x3 p3 p4 eb
      rw [eb]
      simp only [Bool.and_eq_true, beq_iff_eq] at hm
      obtain ⟨⟨⟨⟨⟨⟨rfl, m1⟩, m2⟩, m3⟩, m4⟩, m5⟩, m6⟩ := hm
      have v1 : ∀ {x : Str}, isVis (L2.defScope st) x = true → L2.Vis (L2.defScope st) x := fun {x} h => by
        unfold isVis at h
        simp only [Bool.or_eq_true, beq_iff_eq] at h
        exact h.elim (fun h => h.elim .inl fun h => .inr (.inl h)) fun h => .inr (.inr h)
      refine ⟨_, L2.pss_one (L2.ps_ost (L2.pe_var (i := 0) m1 (v1 m3) (okN_ok m5).1 (okN_ok m5).2) (L2.pe_var (i := 1) m2 (v1 m4) (okN_ok m6).1 (okN_ok m6).2) rfl), ?_⟩
      subst e
      have es : L2.start N [V.ref b, y] = [some (.ref b), some y] := by unfold L2.start; simp [hN]
      rw [es]
      refine ⟨y, rfl, .ref b, rfl, b, c.ca k, rfl, h1, h2, .inl ⟨hb, fun dx hd hne => q dx hd hne⟩⟩
    · cases hm
end
end Z
end

section
set_option autoImplicit false
set_option linter.all false
set_option maxRecDepth 100000
namespace Z
open PySem (Str sizeLine Value Addr PyData Expr Scope)
open L2 (V HO Hp Key Cx)
def AllL {α : Type} (P : α → Prop) : List α → Prop
  | [] => True
  | x :: l => P x ∧ AllL P l
theorem AllL.mem {α : Type} {P : α → Prop} : ∀ {l : List α}, AllL P l → ∀ x ∈ l, P x
  | [], _, _, h => by cases h
  | y :: l, h, x, m => by
    rcases List.mem_cons.mp m with rfl | m
    · exact h.1
    · exact AllL.mem h.2 x m
theorem lookup_mem {β : Type} : ∀ {l : List (Str × β)} {x : Str} {y : β}, l.lookup x = some y → (x, y) ∈ l
  | [], _, _, h => by cases h
  | (a, b) :: l, x, y, h => by
    rw [List.lookup_cons] at h
    split at h
    · rename_i e
      have : x = a := by simpa using e
      cases h; subst this; exact List.mem_cons_self ..
    · exact List.mem_cons_of_mem _ (lookup_mem h)
/-- a def of the program: its object stands at a -/
structure FnD (c : Cfg) (T : Tb) (G : Pg) (f : Nat) (a : Addr) (fd : PySem.FuncData) (ps : List Str) : Prop where
  ex : ∃ x qual st N F, L2.Fun c.K x qual st a fd ∧ L2.FnScope N ps (L2.defScope st) ∧ G.fn f = some F ∧ F.np = ps.length ∧ F.ns = N.length ∧ mSs T ⟨L2.defScope st, N, fun _ => true⟩ F.body (L2.defBody st) = true ∧ L2.Binds c.K fd ps []
structure Hdf (c : Cfg) (T : Tb) (G : Pg) (mg : Str → Option Value) : Prop where
  fns : AllL (fun p => ∃ a fd ps, mg p.1 = some (.ref a) ∧ FnD c T G p.2 a fd ps) T.fns
  mts : AllL (fun p => (∃ k f, G.meth k p.2 = some f) ∧ ∀ k f, G.meth k p.2 = some f → p.1 ∉ c.fl k ∧ ∃ a fd ps, L2.Cls c.K (c.ca k) ∧ L2.Meth c.K (c.ca k) p.1 a ∧ FnD c T G f a fd ps) T.mts
  cls : AllL (fun p => mg p.1 = some (.ref (c.ca p.2)) ∧ ∃ f a fd ps, G.init p.2 = some f ∧ L2.Mk c.K (c.ca p.2) a ∧ FnD c T G f a fd ps) T.cls
  fld : ∀ (k j : Nat) (f : Str), (T.fl k)[j]? = some f → (c.fl k)[j]? = some f ∧ L2.Cls c.K (c.ca k) ∧ L2.NoAttr c.K (c.ca k) f ∧ (c.fl k).Nodup ∧ (c.fl k).length < 1000
  con : AllL (fun p => ∃ u v, mg p.1 = some u ∧ L2.RelV v u ∧ ∀ w : Wd, RD c w.H (Live w) (G.con p.2) v) T.con
  nob : AllL (fun x => mg x = none) bnames
  exs : ExF c G (T.xcs.map (·.2))
  xcs : AllL (fun p => mg p.1 = some (.ref (c.ca p.2))) T.xcs
  xsT : c.xs = T.rse
  xfl : ∀ k ∈ c.xs, c.fl k = T.xf k
  rse : ∀ k ∈ c.xs, ∃ f a fd ps x qual st N, c.fl k = [f] ∧ G.flds k = 1 ∧ L2.OexC c.K (c.ca k) ∧ PySem.W.findIn c.K (.ref (c.ca k)) (Str.ofString "__init__") = some (some (.ref a)) ∧ PySem.W.typeIn c.K (.ref a) = some (.type "function") ∧ L2.Binds c.K fd ps [] ∧ L2.Fun c.K x qual st a fd ∧ L2.FnScope N ps (L2.defScope st) ∧ ps.length = 2 ∧ N.length = 2 ∧ mInit N f st = true
section
variable {c : Cfg} {T : Tb} {G : Pg} {P : PySem.Program} {w : PySem.World} {mg : Str → Option Value} {base : PySem.Heap}
theorem FnD.kp {f : Nat} {a : Addr} {fd : PySem.FuncData} {ps : List Str} (h : FnD c T G f a fd ps) : PySem.W.keepIn c.K (.ref a) = true ∧ L2.Binds c.K fd ps [] := by
  obtain ⟨x, qual, st, N, F, h1, h2, h3, h4, h5, h6, h7⟩ := h.ex
  exact ⟨h1.kp, h7⟩
theorem call_no {k f : Nat} {a : Addr} {fd : PySem.FuncData} {ps : List Str} : L2.FnOk P w c.K mg base (L2.CX P w) k a fd ps (spF c (call G 0 f)) :=
  ⟨fun vs H Q E ⟨w, us, _, _, _, h⟩ => h.elim, fun A outer s H args us vs Q E _ _ _ _ ⟨w, us', _, _, _, h⟩ => h.elim⟩
theorem FnD.ok {n : Nat} (gb : ∀ m, n = m + 1 → Gb c T G m (call G m) P w mg base) {f : Nat} {a : Addr} {fd : PySem.FuncData} {ps : List Str} (h : FnD c T G f a fd ps) : L2.FnOk P w c.K mg base (L2.CX P w) (2 * n + 1) a fd ps (spF c (call G n f)) := by
  cases n with
  | zero => exact call_no
  | succ n =>
    obtain ⟨x, qual, st, N, F, h1, h2, h3, h4, h5, h6, h7⟩ := h.ex
    exact fn_ok (lv := 0) (gb n rfl) h1 h2 h3 h4 h5 h6
theorem gb_of (H : Hdf c T G mg) : ∀ n, Gb c T G n (call G n) P w mg base := by
  intro n
  induction n with
  | zero => exact go 0 (fun m q => by cases q)
  | succ n ih => exact go (n + 1) (fun m q => by cases q; exact ih)
where
  go (n : Nat) (gb : ∀ m, n = m + 1 → Gb c T G m (call G m) P w mg base) : Gb c T G n (call G n) P w mg base :=
  { fns := fun x f h => by
      obtain ⟨a, fd, ps, h1, h2⟩ := H.fns.mem _ (lookup_mem h)
      exact ⟨a, fd, ps, h1, h2.kp.1, h2.kp.2, h2.ok gb⟩
    mts := fun x m h => by
      obtain ⟨h1, h2⟩ := H.mts.mem _ (lookup_mem h)
      refine ⟨h1, fun k f e => ?_⟩
      obtain ⟨g1, a, fd, ps, g2, g3, g4⟩ := h2 k f e
      exact ⟨g1, a, fd, ps, g2, g3, g4.kp.2, g4.ok gb⟩
    cls := fun x k h => by
      obtain ⟨h1, f, a, fd, ps, h2, h3, h4⟩ := H.cls.mem _ (lookup_mem h)
      exact ⟨h1, f, a, fd, ps, h2, h3, h4.kp.2, h4.ok gb⟩
    fld := H.fld
    con := fun x k h => H.con.mem _ (lookup_mem h)
    nob := fun x h => H.nob.mem x h
    exs := H.exs
    xcs := fun x k h => H.xcs.mem _ (lookup_mem h)
    xsT := H.xsT
    xfl := H.xfl
    rse := fun k hk => by
      obtain ⟨f, a, fd, ps, x, qual, st, N, h1, h2, h3, h4, h5, h6, h7, h8, h9, h10, h11⟩ := H.rse k hk
      exact ⟨f, a, fd, ps, h1, h2, h3, h4, h5, h6, init_ok h7 h8 h9 h10 h11 h3 (H.exs.no k hk f (by rw [h1]; exact List.mem_cons_self ..))⟩ }
theorem kitCls_of {K : PySem.W.Frag} {t : Value} {C : Addr} {b : Bool} (h2 : PySem.W.isClsIn K C = true) (h3 : PySem.W.typeIn K (.ref C) = some (.type "type")) (h4 : PySem.W.subIn K t (.ref C) = some b) : PySem.W.kitCls K t (.ref C) = some b := by
  have e2 : ((PySem.W.clsIn K C).isSome && PySem.W.typeIn K (.ref C) == some (.type "type")) = true := by
    have h2' : (PySem.W.clsIn K C).isSome = true := h2
    rw [h2', h3]; rfl
  show (if ((PySem.W.clsIn K C).isSome && PySem.W.typeIn K (.ref C) == some (.type "type")) = true then PySem.W.subIn K t (.ref C) else none) = some b
  rw [if_pos e2]
  exact h4
theorem exm_of {K : PySem.W.Frag} {t : Value} {C : Addr} {b : Bool} (h1 : PySem.W.subIn K (.ref C) (.type "BaseException") = some true) (h2 : PySem.W.isClsIn K C = true) (h3 : PySem.W.typeIn K (.ref C) = some (.type "type")) (h4 : PySem.W.subIn K t (.ref C) = some b) : PySem.W.exmOne K t (.ref C) = some b := by
  have e1 : (PySem.W.subIn K (.ref C) (.type "BaseException") == some true) = true := by rw [h1]; rfl
  unfold PySem.W.exmOne
  rw [if_pos e1]
  exact kitCls_of h2 h3 h4
theorem kit1_of {K : PySem.W.Frag} {t : Value} {C : Addr} {b : Bool} (h2 : PySem.W.isClsIn K C = true) (h3 : PySem.W.typeIn K (.ref C) = some (.type "type")) (h4 : PySem.W.subIn K t (.ref C) = some b) (h5 : PySem.W.subIn K (.ref C) (.ref C) = some true) : PySem.W.kitOne K t (.ref C) = some b := by
  unfold PySem.W.kitOne
  split
  · rename_i e
    have : t = .ref C := by simpa using e
    subst this
    rw [h5] at h4
    exact h4
  · exact kitCls_of h2 h3 h4
theorem kitV_of {K : PySem.W.Frag} {A : Addr} (h : PySem.W.subIn K (.ref A) (.type "ValueError") = some true) : PySem.W.kitOne K (.ref A) (.type "ValueError") = some true := by
  have e : (Value.ref A == Value.type "ValueError") = false := rfl
  unfold PySem.W.kitOne
  rw [e, if_neg Bool.false_ne_true]
  have e2 : PySem.W.kitMeta "ValueError" = true := by decide +kernel
  show (if PySem.W.kitMeta "ValueError" = true then PySem.W.subIn K (.ref A) (.type "ValueError") else none) = some true
  rw [if_pos e2]
  exact h
/-- what the law is asked -/
def spL (K : PySem.W.Frag) (m : Nat) : L2.Sp := fun vs H Q _ => ∃ (a : Addr) (ns : List Int), vs = [.ref a] ∧ L2.SqL K H a (ns.map V.int) ∧ ns.length ≤ m ∧ (∀ z ∈ ns, PySem.Builtin.Int.intBits z ≤ 1048576) ∧ ∀ H', Q (.bl true) H'
theorem law_ok {m n f : Nat} {a : Addr} {fd : PySem.FuncData} {ps : List Str} (H : Hdf c T G mg) (hm : m ≤ sizeLine) (h : FnD c T G f a fd ps) (hp : ps.length = 1)
    (he : ∀ ns : List Int, ns.length ≤ m → (∀ z ∈ ns, PySem.Builtin.Int.intBits z ≤ 1048576) → ∃ s, call G n f [.d (.scr ns)] ⟨[[]], []⟩ = .ok (.d (.bl true)) s) : L2.FnOk P w c.K mg base (L2.CX P w) (2 * n + 1) a fd ps (spL c.K m) := by
  have ok := h.ok (P := P) (w := w) (mg := mg) (base := base) (n := n) (fun m q => gb_of H m)
  refine ⟨fun vs H Q E ⟨a, ns, e, _⟩ => by rw [e, hp]; rfl, fun A outer s H0 args us vs Q E h1 h2 h3 h4 h5 => ok.run A outer s H0 args us vs Q E h1 h2 h3 h4 ?_⟩
  obtain ⟨b, ns, rfl, hs, hl, hb, q⟩ := h5
  obtain ⟨s', e⟩ := he ns hl hb
  refine ⟨⟨H0, [[]], ⟨[[]], []⟩, fun _ => False⟩, [.d (.scr ns)], rfl, ?_, .cons (.d (.scr ?_ (Nat.le_trans hl hm))) .nil, ?_⟩
  · refine ⟨rfl, fun g i a k e1 e2 => ?_, fun g i g' i' a k k' e1 => ?_, fun g i k e1 => ?_, fun a m => m.elim⟩
    · simp [getL] at e1
    · simp [getL] at e1
    · simp [getL] at e1
  · rcases hs with hs | hs
    · refine .inl ⟨hs, fun q => ?_⟩
      rcases q with ⟨g, i, k, e1, _⟩ | q
      · simp [getL] at e1
      · exact q
    · obtain ⟨o, its, nn, q1, q2, q3, q4, q5, q6⟩ := hs
      exact .inr ⟨o, its, nn, q1, q2, q3, q4, q5, q6⟩
  · show OutE c E _ (RU c) (call G n f [.d (.scr ns)] ⟨[[]], []⟩) Q
    rw [e]
    intro w' v e' ok' x' r
    cases r with
    | d r => cases r; exact q _
end
end Z
end

section
set_option autoImplicit false
set_option maxRecDepth 100000
namespace Z.Law
open Z
open PySem (Str)
def l__wall_0 : St := .whl 1000 (.lit (.bl true))
    [.pass]
/-- 265 _wall (0 k) -/
def f__wall : Fn := ⟨1, 1,
  [l__wall_0]⟩
/-- 137 is_whole (0 value) -/
def f__law_is_integer : Fn := ⟨1, 1,
  [.ret (.and (.isi (.var 0) .int) (.not (.isi (.var 0) .bl)))]⟩
/-- 557 is_name (0 value 1 sign) -/
def f_is_name : Fn := ⟨1, 2,
  [.ife (.or (.not (.isi (.var 0) .str)) (.not (.cmp2 .le .le (.lit (.int 1)) (.bf .val .len [.var 0]) (.con 15))))
    [.ret (.lit (.bl false))]
    [],
  .ife (.cmp .nin (.ix (.var 0) (.lit (.int 0))) (.con 3))
    [.ret (.lit (.bl false))]
    [],
  .ret (.bf .val .all [.comp .val [1] (.name 1) (.of (.var 0)) [] (.or (.cmp .inn (.var 1) (.con 3)) (.cmp .inn (.var 1) (.con 1)))])]⟩
/-- 562 is_pair (0 value) -/
def f_is_pair : Fn := ⟨1, 1,
  [.ret (.and (.isi (.var 0) .tup) (.cmp .eq (.bf .val .len [.var 0]) (.lit (.int 2))))]⟩
/-- 524 is_ascending (0 listed 1 before 2 after) -/
def f_is_ascending : Fn := ⟨1, 3,
  [.ret (.bf .val .all [.comp .val [1, 2] (.tup [.name 1, .name 2]) (.zip (.var 0) (.slc .val (.var 0) (some (.lit (.int 1))) none)) [] (.cmp .lt (.var 1) (.var 2))])]⟩
/-- 303 are_names (0 value 1 name) -/
def f_are_names : Fn := ⟨1, 2,
  [.ife (.or (.not (.isi (.var 0) .lst)) (.not (.bf .val .all [.comp .val [1] (.name 1) (.of (.var 0)) [] (.call 557 [.var 1])])))
    [.ret (.lit (.bl false))]
    [],
  .ret (.call 524 [.var 0])]⟩
/-- 296 are_graves (0 value) -/
def f_are_graves : Fn := ⟨1, 1,
  [.ret (.and (.call 303 [.var 0]) (.cmp2 .le .le (.lit (.int 1)) (.bf .val .len [.var 0]) (.con 21)))]⟩
/-- 308 are_some_of (0 value 1 graves 2 grave) -/
def f_are_some_of : Fn := ⟨2, 3,
  [.ret (.and (.call 303 [.var 0]) (.and (.cmp .gt (.bf .val .len [.var 0]) (.lit (.int 0))) (.bf .val .all [.comp .val [2] (.name 2) (.of (.var 0)) [] (.cmp .inn (.var 2) (.var 1))])))]⟩
/-- 567 is_right_kind (0 value 1 graves 2 name 3 members) -/
def f_is_right_kind : Fn := ⟨2, 4,
  [.ife (.not (.call 562 [.var 0]))
    [.ret (.lit (.bl false))]
    [],
  .set (.tup [.name 2, .name 3]) (.var 0),
  .ret (.and (.call 557 [.var 2]) (.call 308 [.var 3, .var 1]))]⟩
def l_first_wrong_0 : St := .for (.tup [.name 2, .name 3]) (.enum (.var 1))
    [.ife (.not (.call 567 [.var 3, .var 0]))
       [.ret (.var 2)]
       [],
     .ife (.and (.cmp .gt (.var 2) (.lit (.int 0))) (.cmp .le (.ix (.var 3) (.lit (.int 0))) (.ix (.ix (.var 1) (.bin .val .sub (.var 2) (.lit (.int 1)))) (.lit (.int 0)))))
       [.ret (.var 2)]
       []]
/-- 475 first_wrong (0 graves 1 kinds 2 index 3 kind) -/
def f_first_wrong : Fn := ⟨2, 4,
  [l_first_wrong_0,
  .ret (.lit (.non))]⟩
/-- 366 check_dig (0 graves 1 kinds 2 wrong) -/
def f_check_dig : Fn := ⟨2, 3,
  [.ife (.not (.call 296 [.var 0]))
    [.raise 1 [.con 36]]
    [],
  .ife (.or (.not (.isi (.var 1) .lst)) (.cmp .gt (.bf .val .len [.var 1]) (.con 14)))
    [.raise 1 [.con 37]]
    [],
  .set (.name 2) (.call 475 [.var 0, .var 1]),
  .ife (.cmp .isn (.var 2) (.lit (.non)))
    [.raise 1 [.var 2]]
    []]⟩
def l__law_numbers_0 : St := .for (.name 5) (.rng1 (.var 2))
    [.ife (.cmp .ge (.var 3) (.bin .val .pow (.lit (.int 10)) (.lit (.int 18))))
       [.exp (.bm .append (.var 4) [.bin .val .mod (.var 3) (.lit (.int 1009))]),
        .set (.name 3) (.bin .val .fdiv (.var 3) (.lit (.int 1009)))]
       [.set (.name 6) (.bin .val .mod (.bin .val .add (.bin .val .add (.bin .val .mul (.var 3) (.lit (.int 48271))) (.bin .val .mul (.bin .val .add (.var 5) (.lit (.int 1))) (.lit (.int 69621)))) (.bin .val .mul (.var 1) (.lit (.int 4001)))) (.lit (.int 2147483647))),
        .set (.name 6) (.bin .val .mod (.bin .val .add (.bin .val .mul (.var 6) (.var 6)) (.bin .val .mul (.lit (.int 16807)) (.bin .val .add (.var 5) (.lit (.int 3))))) (.lit (.int 2147483629))),
        .exp (.bm .append (.var 4) [.bin .val .mod (.bin .val .fdiv (.var 6) (.lit (.int 7))) (.lit (.int 1009))])]]
/-- 176 _law_numbers (0 script 1 at 2 many 3 cell 4 numbers 5 k 6 mixed) -/
def f__law_numbers : Fn := ⟨3, 7,
  [.set (.name 3) (.bin .val .mul (.lit (.int 1000003)) (.bin .val .add (.var 1) (.lit (.int 1)))),
  .ife (.cmp .lt (.var 1) (.bf .val .len [.var 0]))
    [.set (.name 3) (.bt .val .int [.ix (.var 0) (.var 1)])]
    [],
  .ife (.cmp .lt (.var 3) (.lit (.int 0)))
    [.set (.name 3) (.bin .val .sub (.lit (.int 1)) (.bin .val .mul (.lit (.int 2)) (.var 3)))]
    [],
  .set (.name 4) (.lst .cell []),
  l__law_numbers_0,
  .ret (.var 4)]⟩
def l__law_names_1 : St := .for (.name 9) (.rng1 (.bin .val .mul (.bin .val .mod (.ix (.var 5) (.bin .val .add (.bin .val .mul (.lit (.int 3)) (.var 7)) (.lit (.int 1)))) (.lit (.int 12))) (.bt .val .int [.cmp .eq (.bin .val .mod (.ix (.var 5) (.bin .val .add (.bin .val .mul (.lit (.int 3)) (.var 7)) (.lit (.int 2)))) (.lit (.int 3))) (.lit (.int 0))])))
    [.set (.name 8) (.bin .val .add (.var 8) (.ix (.var 4) (.bin .val .mod (.bin .val .add (.ix (.var 5) (.bin .val .add (.bin .val .mul (.lit (.int 3)) (.var 7)) (.lit (.int 2)))) (.bin .val .mul (.lit (.int 7)) (.var 9))) (.lit (.int 36)))))]
def l__law_names_0 : St := .for (.name 7) (.rng1 (.var 2))
    [.set (.name 8) (.ix (.var 3) (.bin .val .mod (.ix (.var 5) (.bin .val .mul (.lit (.int 3)) (.var 7))) (.lit (.int 26)))),
     l__law_names_1,
     .setix (.var 6) (.var 8) (.lit (.bl true))]
/-- 170 _law_names (0 script 1 at 2 count 3 letters 4 signs 5 numbers 6 found 7 j 8 word 9 turn) -/
def f__law_names : Fn := ⟨3, 10,
  [.set (.name 3) (.lit (.str [97, 98, 99, 100, 101, 102, 103, 104, 105, 106, 107, 108, 109, 110, 111, 112, 113, 114, 115, 116, 117, 118, 119, 120, 121, 122])),
  .set (.name 4) (.bin .val .add (.var 3) (.lit (.str [48, 49, 50, 51, 52, 53, 54, 55, 56, 57]))),
  .set (.name 5) (.call 176 [.var 0, .var 1, .lit (.int 30)]),
  .set (.name 6) .dnew,
  l__law_names_0,
  .ret (.bf .val .sorted [.bt .val .list [.var 6]])]⟩
/-- 125 _law_hidden (0 script 1 at 2 graves 3 numbers 4 pair 5 j) -/
def f__law_hidden_v1 : Fn := ⟨3, 6,
  [.set (.name 3) (.call 176 [.var 0, .var 1, .lit (.int 10)]),
  .ret (.comp .val [4] (.name 4) (.of (.bf .val .sorted [.comp .val [5] (.name 5) (.rng1 (.bf .val .len [.var 2])) [] (.tup [.ix (.var 3) (.bin .val .add (.lit (.int 2)) (.var 5)), .ix (.var 2) (.var 5)])])) [] (.ix (.var 4) (.lit (.int 1))))]⟩
def l__law_dig_0 : St := .for (.name 9) (.rng1 (.bf .val .len [.var 6]))
    [.set (.name 10) (.bin .val .mod (.ix (.var 4) (.bin .val .add (.lit (.int 10)) (.bin .val .mul (.lit (.int 2)) (.var 9)))) (.bf .val .len [.var 7])),
     .set (.name 11) (.slc .val (.var 7) (some (.var 10)) (some (.bin .val .add (.bin .val .add (.var 10) (.lit (.int 1))) (.bin .val .mod (.ix (.var 4) (.bin .val .add (.lit (.int 11)) (.bin .val .mul (.lit (.int 2)) (.var 9)))) (.bin .val .sub (.bf .val .len [.var 7]) (.var 10)))))),
     .ife (.and (.cmp .eq (.bin .val .mod (.ix (.var 4) (.lit (.int 40))) (.lit (.int 3))) (.lit (.int 1))) (.cmp .eq (.bin .val .mod (.ix (.var 4) (.bin .val .add (.lit (.int 30)) (.var 9))) (.lit (.int 3))) (.lit (.int 0))))
       [.set (.name 12) (.ix (.var 5) (.bin .val .mod (.ix (.var 4) (.bin .val .add (.lit (.int 41)) (.var 9))) (.bf .val .len [.var 5]))),
        .set (.name 11) (.bin .val .add (.comp .val [14] (.name 14) (.of (.var 11)) [.cmp .ne (.var 14) (.var 12)] (.var 14)) (.bin .val .mul (.lst .val [.var 12]) (.bt .val .int [.cmp .nin (.var 12) (.var 11)])))]
       [],
     .ife (.cmp .eq (.bin .val .mod (.ix (.var 4) (.lit (.int 40))) (.lit (.int 3))) (.lit (.int 2)))
       [.set (.name 11) (.comp .val [13] (.name 13) (.rng1 (.bf .val .len [.var 5])) [.cmp .eq (.bin .val .mod (.ix (.var 4) (.bin .val .mod (.bin .val .add (.bin .val .add (.lit (.int 41)) (.bin .val .mul (.lit (.int 5)) (.var 9))) (.var 13)) (.lit (.int 60)))) (.lit (.int 2))) (.lit (.int 0))] (.ix (.var 5) (.var 13)))]
       [],
     .exp (.bm .append (.var 8) [.tup [.ix (.var 6) (.var 9), .or (.bf .val .sorted [.var 11]) (.lst .val [.ix (.var 5) (.lit (.int 0))])]])]
/-- 91 _law_dig (0 script 1 at 2 most 3 many 4 numbers 5 graves 6 names 7 hidden 8 kinds 9 j 10 first 11 members 12 odd 13 k 14 grave) -/
def f__law_dig : Fn := ⟨4, 15,
  [.set (.name 4) (.call 176 [.var 0, .bin .val .add (.var 1) (.lit (.int 1)), .lit (.int 60)]),
  .set (.name 5) (.call 170 [.var 0, .var 1, .bin .val .add (.lit (.int 1)) (.bin .val .mod (.ix (.var 4) (.lit (.int 55))) (.var 2))]),
  .set (.name 6) (.call 170 [.var 0, .bin .val .add (.var 1) (.lit (.int 2)), .bin .val .mod (.ix (.var 4) (.lit (.int 51))) (.bin .val .add (.var 3) (.lit (.int 1)))]),
  .set (.name 7) (.call 125 [.var 0, .bin .val .add (.var 1) (.lit (.int 1)), .var 5]),
  .set (.name 8) (.lst .cell []),
  l__law_dig_0,
  .ret (.tup [.var 5, .vfz 8])]⟩
/-- 215 _law_refusal (0 graves 1 kinds 2 e) -/
def f__law_refusal_v6 : Fn := ⟨2, 3,
  [.try [.exp (.new 5 [.var 0, .var 1])]
    [⟨1, 2, [.ifr (.or (.isi 4) (.or (.not (.isi 7)) (.not (.isB 0)))) (.lit (.str [109, 105, 120, 101, 100])), .ret (.fld 1 0)]⟩],
  .ret (.lit (.non))]⟩
def l__law_wrong_kinds_0 : St := .for (.name 4) (.of (.lst .val [.lit (.str []), .lit (.str [90, 122]), .lit (.str [49, 122]), .lit (.str [122, 32, 122]), .lit (.str [122, 122, 122, 122, 122, 122, 122, 122, 122, 122, 122, 122, 122]), .lit (.non), .lit (.int 5)]))
    [.exp (.bm .append (.var 3) [.tup [.var 4, .lst .val [.var 2]]])]
/-- 263 _law_wrong_kinds (0 kinds 1 at 2 grave 3 found 4 odd) -/
def f__law_wrong_kinds : Fn := ⟨3, 5,
  [.set (.name 3) (.lst .cell [.lit (.non), .lit (.str [122, 122, 122]), .tup [.lit (.str [122, 122, 122])], .lst .val [.lit (.str [122, 122, 122]), .lst .val [.var 2]], .tup [.lit (.str [122, 122, 122]), .lst .val [.var 2], .lit (.int 0)], .tup [.lit (.str [122, 122, 122]), .lit (.non)], .tup [.lit (.str [122, 122, 122]), .lst .val []], .tup [.lit (.str [122, 122, 122]), .tup [.var 2]], .tup [.lit (.str [122, 122, 122]), .lst .val [.var 2, .var 2]], .tup [.lit (.str [122, 122, 122]), .lst .val [.lit (.str [122, 122, 122])]]]),
  l__law_wrong_kinds_0,
  .ife (.cmp .gt (.var 1) (.lit (.int 0)))
    [.set (.name 3) (.bin .cell .add (.var 3) (.lst .val [.tup [.ix (.ix (.var 0) (.bin .val .sub (.var 1) (.lit (.int 1)))) (.lit (.int 0)), .lst .val [.var 2]], .tup [.ix (.ix (.var 0) (.lit (.int 0))) (.lit (.int 0)), .lst .val [.var 2]]]))]
    [],
  .ret (.var 3)]⟩
def l_law_v69_5 : St := .for (.name 5) (.of (.bin .val .add (.var 6) (.lst .val [.lit (.str [97]), .lit (.str [122, 57]), .lit (.str [97, 98, 99, 100, 101, 102, 103, 104, 105, 106, 107, 108])])))
    [.ife (.cmp .isn (.call 557 [.var 5]) (.lit (.bl true)))
       [.ret (.lit (.bl false))]
       []]
def l_law_v69_4 : St := .for (.name 5) (.of (.var 3))
    [.ife (.cmp .isn (.call 557 [.var 5]) (.lit (.bl false)))
       [.ret (.lit (.bl false))]
       []]
def l_law_v69_3 : St := .for (.name 4) (.of (.call 263 [.var 7, .var 1, .ix (.var 6) (.lit (.int 0))]))
    [.ife (.cmp .ne (.call 215 [.var 6, .bin .val .add (.slc .val (.var 7) none (some (.var 1))) (.lst .val [.var 4])]) (.var 1))
       [.ret (.lit (.bl false))]
       [],
     .ife (.and (.cmp .lt (.var 1) (.lit (.int 9))) (.cmp .ne (.call 215 [.var 6, .bin .val .add (.slc .val (.var 7) none (some (.var 1))) (.lst .val [.var 4, .lit (.non)])]) (.var 1)))
       [.ret (.lit (.bl false))]
       []]
def l_law_v69_2 : St := .for (.name 4) (.of (.lst .val [.lit (.non), .bt .val .tuple [.var 7], .lit (.str [97]), .lit (.int 5), .var 2]))
    [.ife (.cmp .ne (.call 215 [.var 6, .var 4]) (.neg (.lit (.int 2))))
       [.ret (.lit (.bl false))]
       []]
def l_law_v69_1 : St := .for (.name 8) (.of (.lst .val [.var 7, .lit (.non)]))
    [.ife (.cmp .ne (.call 215 [.var 4, .var 8]) (.neg (.lit (.int 1))))
       [.ret (.lit (.bl false))]
       []]
def l_law_v69_0 : St := .for (.name 4) (.of (.bin .val .add (.lst .val [.lit (.non), .lst .val [], .bt .val .tuple [.var 6], .lit (.str [97, 98]), .lit (.int 5), .bin .val .add (.var 6) (.lst .val [.ix (.var 6) (.neg (.lit (.int 1)))]), .bt .val .list [.lit (.str [97, 98, 99, 100, 101, 102, 103, 104, 105])], .lst .val [.lit (.str [98]), .lit (.str [97])]]) (.comp .val [5] (.name 5) (.of (.var 3)) [] (.bin .val .add (.slc .val (.var 6) none (some (.neg (.lit (.int 1))))) (.lst .val [.var 5])))))
    [l_law_v69_1]
/-- 667 law (0 script 1 at 2 many 3 names 4 odd 5 name 6 graves 7 kinds 8 value 9 letter) -/
def f_law_v69 : Fn := ⟨1, 10,
  [.set (.tup [.name 6, .name 7]) (.call 91 [.var 0, .lit (.int 0), .lit (.int 8), .lit (.int 10)]),
  .set (.name 1) (.bin .val .mod (.ix (.call 176 [.var 0, .lit (.int 3), .lit (.int 1)]) (.lit (.int 0))) (.bin .val .add (.bf .val .min2 [.bf .val .len [.var 7], .lit (.int 9)]) (.lit (.int 1)))),
  .set (.name 2) (.comp .val [9] (.name 9) (.of (.lit (.str [97, 98, 99, 100, 101, 102, 103, 104, 105, 106, 107]))) [] (.tup [.bin .val .add (.lit (.str [107])) (.var 9), .lst .val [.ix (.var 6) (.lit (.int 0))]])),
  .ife (.or (.cmp .isn (.call 215 [.var 6, .var 7]) (.lit (.non))) (.or (.cmp .isn (.call 215 [.var 6, .slc .val (.var 2) none (some (.lit (.int 10)))]) (.lit (.non))) (.cmp .isn (.call 215 [.bt .val .list [.lit (.str [97, 98, 99, 100, 101, 102, 103, 104])], .lst .val []]) (.lit (.non)))))
    [.ret (.lit (.bl false))]
    [],
  .set (.name 3) (.lst .val [.lit (.str []), .lit (.str [65]), .lit (.str [49, 97]), .lit (.str [97, 32, 98]), .lit (.str [97, 45, 98]), .lit (.str [97, 98, 99, 100, 101, 102, 103, 104, 105, 106, 107, 108, 109]), .lit (.non), .lit (.int 5)]),
  l_law_v69_0,
  l_law_v69_2,
  l_law_v69_3,
  .ife (.cmp .isn (.call 215 [.var 6, .bin .val .add (.slc .val (.var 7) none (some (.var 1))) (.lst .val [.tup [.lit (.str [122, 122, 122]), .bt .val .list [.var 6]]])]) (.lit (.non)))
    [.ret (.lit (.bl false))]
    [],
  l_law_v69_4,
  l_law_v69_5,
  .ret (.and (.cmp .is (.call 137 [.neg (.lit (.int 5))]) (.lit (.bl true))) (.and (.cmp .is (.call 137 [.lit (.bl true)]) (.lit (.bl false))) (.and (.cmp .is (.call 137 [.lit (.non)]) (.lit (.bl false))) (.cmp .is (.call 137 [.lit (.str [53])]) (.lit (.bl false))))))]⟩
/-- 27 Dig.__init__ (0 self 1 graves 2 kinds 3 grave 4 name 5 members) -/
def f_Dig____init__ : Fn := ⟨3, 6,
  [.exp (.call 366 [.var 1, .var 2]),
  .setfld (.var 0) 5 0 (.bt .val .list [.var 1]),
  .setfld (.var 0) 5 1 (.dcomp .val [4, 5] (.tup [.name 4, .name 5]) (.of (.var 2)) [] (.var 4) (.bt .val .list [.var 5])),
  .setfld (.var 0) 5 2 (.dcomp .val [3] (.name 3) (.of (.fld 5 0 (.var 0))) [] (.var 3) (.mth 21 (.var 0) [.var 3]))]⟩
/-- 40 Dig.kinds_with (0 self 1 grave 2 name 3 members) -/
def f_Dig__kinds_with : Fn := ⟨2, 4,
  [.ret (.comp .val [2, 3] (.tup [.name 2, .name 3]) (.items (.fld 5 1 (.var 0))) [.cmp .inn (.var 1) (.var 3)] (.var 2))]⟩
/-- 32 Dig.graves (0 self) -/
def f_Dig__graves : Fn := ⟨1, 1,
  [.ret (.bt .val .list [.fld 5 0 (.var 0)])]⟩
/-- 39 Dig.kinds (0 self 1 name 2 members) -/
def f_Dig__kinds : Fn := ⟨1, 3,
  [.ret (.comp .val [1, 2] (.tup [.name 1, .name 2]) (.items (.fld 5 1 (.var 0))) [] (.tup [.var 1, .bt .val .list [.var 2]]))]⟩
/-- 42 Dig.names (0 self) -/
def f_Dig__names : Fn := ⟨1, 1,
  [.ret (.bt .val .list [.fld 5 1 (.var 0)])]⟩
/-- 37 Dig.is_grave (0 self 1 value) -/
def f_Dig__is_grave_v1 : Fn := ⟨2, 2,
  [.exp (.call 265 [.lit (.int 0)])]⟩
/-- 38 Dig.is_kind (0 self 1 value) -/
def f_Dig__is_kind : Fn := ⟨2, 2,
  [.ret (.and (.isi (.var 1) .str) (.cmp .inn (.var 1) (.fld 5 1 (.var 0))))]⟩
/-- 41 Dig.members (0 self 1 name) -/
def f_Dig__members : Fn := ⟨2, 2,
  [.ife (.not (.mth 16 (.var 0) [.var 1]))
    [.raise 10 [.var 1]]
    [],
  .ret (.bt .val .list [.ix (.fld 5 1 (.var 0)) (.var 1)])]⟩
/-- 35 Dig.has (0 self 1 grave) -/
def f_Dig__has_v2 : Fn := ⟨2, 2,
  [.exp (.call 265 [.lit (.int 1)])]⟩
/-- 31 Dig.both (0 self 1 name 2 other) -/
def f_Dig__both_v3 : Fn := ⟨3, 3,
  [.exp (.call 265 [.lit (.int 2)])]⟩
def pg : Pg where
  fn := fun n => match n with
    | 265 => some f__wall
    | 137 => some f__law_is_integer
    | 557 => some f_is_name
    | 562 => some f_is_pair
    | 524 => some f_is_ascending
    | 303 => some f_are_names
    | 296 => some f_are_graves
    | 308 => some f_are_some_of
    | 567 => some f_is_right_kind
    | 475 => some f_first_wrong
    | 366 => some f_check_dig
    | 176 => some f__law_numbers
    | 170 => some f__law_names
    | 125 => some f__law_hidden_v1
    | 91 => some f__law_dig
    | 215 => some f__law_refusal_v6
    | 263 => some f__law_wrong_kinds
    | 667 => some f_law_v69
    | 27 => some f_Dig____init__
    | 40 => some f_Dig__kinds_with
    | 32 => some f_Dig__graves
    | 39 => some f_Dig__kinds
    | 42 => some f_Dig__names
    | 37 => some f_Dig__is_grave_v1
    | 38 => some f_Dig__is_kind
    | 41 => some f_Dig__members
    | 35 => some f_Dig__has_v2
    | 31 => some f_Dig__both_v3
    | _ => none
  meth := fun c m => match c, m with
    | 5, 0 => some 27
    | 5, 21 => some 40
    | 5, 11 => some 32
    | 5, 20 => some 39
    | 5, 23 => some 42
    | 5, 14 => some 37
    | 5, 16 => some 38
    | 5, 22 => some 41
    | 5, 12 => some 35
    | 5, 3 => some 31
    | _, _ => none
  init := fun c => match c with
    | 5 => some 27
    | _ => none
  flds := fun c => match c with
    | 7 => 0
    | 1 => 1
    | 4 => 1
    | 10 => 1
    | 5 => 3
    | _ => 0
  sub := fun c d => match c, d with
    | 7, 7 => true
    | 1, 1 => true
    | 1, 7 => true
    | 4, 4 => true
    | 4, 7 => true
    | 10, 10 => true
    | 10, 7 => true
    | 5, 5 => true
    | _, _ => false
  con := fun k => match k with
    | 1 => .str [48, 49, 50, 51, 52, 53, 54, 55, 56, 57]
    | 3 => .str [97, 98, 99, 100, 101, 102, 103, 104, 105, 106, 107, 108, 109, 110, 111, 112, 113, 114, 115, 116, 117, 118, 119, 120, 121, 122]
    | 14 => .int 10
    | 15 => .int 12
    | 21 => .int 8
    | 36 => .int (-1)
    | 37 => .int (-2)
    | _ => .non
def n__wall : List Str := [(Str.ofString "k")]
def n__law_is_integer : List Str := [(Str.ofString "value")]
def n_is_name : List Str := [(Str.ofString "value"), (Str.ofString "sign")]
def n_is_pair : List Str := [(Str.ofString "value")]
def n_is_ascending : List Str := [(Str.ofString "listed"), (Str.ofString "before"), (Str.ofString "after")]
def n_are_names : List Str := [(Str.ofString "value"), (Str.ofString "name")]
def n_are_graves : List Str := [(Str.ofString "value")]
def n_are_some_of : List Str := [(Str.ofString "value"), (Str.ofString "graves"), (Str.ofString "grave")]
def n_is_right_kind : List Str := [(Str.ofString "value"), (Str.ofString "graves"), (Str.ofString "name"), (Str.ofString "members")]
def n_first_wrong : List Str := [(Str.ofString "graves"), (Str.ofString "kinds"), (Str.ofString "index"), (Str.ofString "kind")]
def n_check_dig : List Str := [(Str.ofString "graves"), (Str.ofString "kinds"), (Str.ofString "wrong")]
def n__law_numbers : List Str := [(Str.ofString "script"), (Str.ofString "at"), (Str.ofString "many"), (Str.ofString "cell"), (Str.ofString "numbers"), (Str.ofString "k"), (Str.ofString "mixed")]
def n__law_names : List Str := [(Str.ofString "script"), (Str.ofString "at"), (Str.ofString "count"), (Str.ofString "letters"), (Str.ofString "signs"), (Str.ofString "numbers"), (Str.ofString "found"), (Str.ofString "j"), (Str.ofString "word"), (Str.ofString "turn")]
def n__law_hidden_v1 : List Str := [(Str.ofString "script"), (Str.ofString "at"), (Str.ofString "graves"), (Str.ofString "numbers"), (Str.ofString "pair"), (Str.ofString "j")]
def n__law_dig : List Str := [(Str.ofString "script"), (Str.ofString "at"), (Str.ofString "most"), (Str.ofString "many"), (Str.ofString "numbers"), (Str.ofString "graves"), (Str.ofString "names"), (Str.ofString "hidden"), (Str.ofString "kinds"), (Str.ofString "j"), (Str.ofString "first"), (Str.ofString "members"), (Str.ofString "odd"), (Str.ofString "k"), (Str.ofString "grave")]
def n__law_refusal_v6 : List Str := [(Str.ofString "graves"), (Str.ofString "kinds"), (Str.ofString "e")]
def n__law_wrong_kinds : List Str := [(Str.ofString "kinds"), (Str.ofString "at"), (Str.ofString "grave"), (Str.ofString "found"), (Str.ofString "odd")]
def n_law_v69 : List Str := [(Str.ofString "script"), (Str.ofString "at"), (Str.ofString "many"), (Str.ofString "names"), (Str.ofString "odd"), (Str.ofString "name"), (Str.ofString "graves"), (Str.ofString "kinds"), (Str.ofString "value"), (Str.ofString "letter")]
def n_Dig____init__ : List Str := [(Str.ofString "self"), (Str.ofString "graves"), (Str.ofString "kinds"), (Str.ofString "grave"), (Str.ofString "name"), (Str.ofString "members")]
def n_Dig__kinds_with : List Str := [(Str.ofString "self"), (Str.ofString "grave"), (Str.ofString "name"), (Str.ofString "members")]
def n_Dig__graves : List Str := [(Str.ofString "self")]
def n_Dig__kinds : List Str := [(Str.ofString "self"), (Str.ofString "name"), (Str.ofString "members")]
def n_Dig__names : List Str := [(Str.ofString "self")]
def n_Dig__is_grave_v1 : List Str := [(Str.ofString "self"), (Str.ofString "value")]
def n_Dig__is_kind : List Str := [(Str.ofString "self"), (Str.ofString "value")]
def n_Dig__members : List Str := [(Str.ofString "self"), (Str.ofString "name")]
def n_Dig__has_v2 : List Str := [(Str.ofString "self"), (Str.ofString "grave")]
def n_Dig__both_v3 : List Str := [(Str.ofString "self"), (Str.ofString "name"), (Str.ofString "other")]
def tb : Tb where
  fns := [((Str.ofString "_wall"), 265), ((Str.ofString "is_whole"), 137), ((Str.ofString "is_name"), 557), ((Str.ofString "is_pair"), 562), ((Str.ofString "is_ascending"), 524), ((Str.ofString "are_names"), 303), ((Str.ofString "are_graves"), 296), ((Str.ofString "are_some_of"), 308), ((Str.ofString "is_right_kind"), 567), ((Str.ofString "first_wrong"), 475), ((Str.ofString "check_dig"), 366), ((Str.ofString "_law_numbers"), 176), ((Str.ofString "_law_names"), 170), ((Str.ofString "_law_hidden"), 125), ((Str.ofString "_law_dig"), 91), ((Str.ofString "_law_refusal"), 215), ((Str.ofString "_law_wrong_kinds"), 263), ((Str.ofString "law"), 667)]
  cls := [((Str.ofString "Dig"), 5)]
  con := [((Str.ofString "LETTERS"), 3), ((Str.ofString "FIGURES"), 1), ((Str.ofString "MOST_SIGNS"), 15), ((Str.ofString "MOST_GRAVES"), 21), ((Str.ofString "MOST_KINDS"), 14), ((Str.ofString "WRONG_GRAVES"), 36), ((Str.ofString "WRONG_LIST"), 37)]
  mts := [((Str.ofString "kinds_with"), 21), ((Str.ofString "graves"), 11), ((Str.ofString "kinds"), 20), ((Str.ofString "names"), 23), ((Str.ofString "is_grave"), 14), ((Str.ofString "is_kind"), 16), ((Str.ofString "members"), 22), ((Str.ofString "has"), 12), ((Str.ofString "both"), 3)]
  xcs := [((Str.ofString "DigError"), 7), ((Str.ofString "BadDig"), 1), ((Str.ofString "BadOrder"), 4), ((Str.ofString "Unknown"), 10)]
  fl := fun c => match c with
    | 5 => [(Str.ofString "_graves"), (Str.ofString "_members"), (Str.ofString "_had")]
    | _ => []
  rse := [1, 4, 10]
  xf := fun c => match c with
    | 1 => [(Str.ofString "index")]
    | 4 => [(Str.ofString "index")]
    | 10 => [(Str.ofString "name")]
    | _ => []
end Z.Law
end

section
set_option autoImplicit false
namespace Z
theorem RE.bind_congr {α β : Type} {x y : RE α} {f : α → Stk → RE β} (h : x = y) : x.bind f = y.bind f := by rw [h]
theorem RE.blk_congr {α β : Type} {x y : RE α} {f : α → Stk → RE β} (h : x = y) : x.blk f = y.blk f := by rw [h]
theorem RS.of_congr {α : Type} {x y : RE α} {f : α → Stk → RS} (h : x = y) : RS.of x f = RS.of y f := by rw [h]
theorem RS.seq_congr {x y : RS} {f : Env → Stk → RS} (h : x = y) : x.seq f = y.seq f := by rw [h]
theorem RS.turn_congr {x y : RS} {f : Env → Stk → RS} (h : x = y) : x.turn f = y.turn f := by rw [h]
theorem cond_congr' {α : Type} {b c : Bool} {x y : α} (h : b = c) : cond b x y = cond c x y := by rw [h]
theorem compL_congr {f : Im → Stk → RE (Option U)} {l m : List Im} {s t : Stk} (h : l = m) (e : s = t) : compL f l s = compL f m t := by rw [h, e]
theorem compK_congr {f : Im → Stk → RE (Option (Ky × U))} {l m : List Im} {q : List Ky × List U} {s t : Stk} (h : l = m) (e : s = t) : compK f l q s = compK f m q t := by rw [h, e]
theorem forL_congr {f : Im → Env → Stk → RS} {l m : List Im} {ρ ρ' : Env} {s t : Stk} (h : l = m) (e : s = t) (e' : ρ = ρ') : forL f l ρ s = forL f m ρ' t := by rw [h, e, e']
section
variable {α β : Type}
theorem RE.bind_ok (a : α) (s : Stk) (f : α → Stk → RE β) : (RE.ok a s).bind f = f a s := rfl
theorem RE.bind_ex (c : Nat) (vs : List D) (s : Stk) (f : α → Stk → RE β) : (RE.ex c vs s : RE α).bind f = .ex c vs s := rfl
theorem RE.blk_ok (a : α) (s : Stk) (f : α → Stk → RE β) : (RE.ok a s).blk f = f a s := rfl
theorem RE.of_some (a : α) (s : Stk) : RE.of (some a) s = .ok a s := rfl
theorem RS.of_ok (a : α) (s : Stk) (f : α → Stk → RS) : RS.of (.ok a s) f = f a s := rfl
theorem RS.of_ex (c : Nat) (vs : List D) (s : Stk) (f : α → Stk → RS) : RS.of (.ex c vs s) f = .ex c vs s := rfl
end
theorem RS.seq_nx (ρ : Env) (s : Stk) (f : Env → Stk → RS) : (RS.nx ρ s).seq f = f ρ s := rfl
theorem RS.seq_ret (u : U) (s : Stk) (f : Env → Stk → RS) : (RS.ret u s).seq f = .ret u s := rfl
theorem RS.seq_ex (c : Nat) (vs : List D) (s : Stk) (f : Env → Stk → RS) : (RS.ex c vs s).seq f = .ex c vs s := rfl
theorem RS.seq_cnt (ρ : Env) (s : Stk) (f : Env → Stk → RS) : (RS.cnt ρ s).seq f = .cnt ρ s := rfl
theorem RS.turn_nx (ρ : Env) (s : Stk) (f : Env → Stk → RS) : (RS.nx ρ s).turn f = f ρ s := rfl
theorem RS.turn_cnt (ρ : Env) (s : Stk) (f : Env → Stk → RS) : (RS.cnt ρ s).turn f = f ρ s := rfl
theorem RS.turn_ret (u : U) (s : Stk) (f : Env → Stk → RS) : (RS.ret u s).turn f = .ret u s := rfl
theorem RS.turn_ex (c : Nat) (vs : List D) (s : Stk) (f : Env → Stk → RS) : (RS.ex c vs s).turn f = .ex c vs s := rfl
theorem fin_ret (x : D) (r : List Cell) (l : List (List Cell)) (k : List (Nat × Nat)) : fin (.ret (.d x) ⟨r :: l, k⟩) = .ok (.d x) ⟨l, k⟩ := by
  simp only [fin, frzU, frz]
  rfl
theorem fin_nx (ρ : Env) (r : List Cell) (l : List (List Cell)) (k : List (Nat × Nat)) : fin (.nx ρ ⟨r :: l, k⟩) = .ok (.d .non) ⟨l, k⟩ := rfl
theorem fin_ex (c : Nat) (vs : List D) (r : List Cell) (l : List (List Cell)) (k : List (Nat × Nat)) : fin (.ex c vs ⟨r :: l, k⟩) = .ex c vs ⟨l, k⟩ := rfl
theorem getV_0 (u : U) (ρ : Env) : getV (some u :: ρ) 0 = some u := rfl
theorem getV_s (o : Option U) (ρ : Env) (i : Nat) : getV (o :: ρ) (i + 1) = getV ρ i := rfl
theorem set_0 (o p : Option U) (ρ : Env) : List.set (o :: ρ) 0 p = p :: ρ := rfl
theorem set_s (o p : Option U) (ρ : Env) (i : Nat) : List.set (o :: ρ) (i + 1) p = o :: ρ.set i p := rfl
theorem ewipe_nil (ρ : Env) : wipe ρ [] = ρ := rfl
theorem ewipe_cons (ρ : Env) (v : Nat) (vs : List Nat) : wipe ρ (v :: vs) = (wipe ρ vs).set v none := rfl
def mkEnv (us : List U) (n : Nat) : Env := us.map some ++ List.replicate n none
theorem call_eq {P : Pg} {f n : Nat} {us : List U} {s : Stk} {F : Fn} (h : P.fn f = some F) (e : us.length = F.np) : call P (n + 1) f us s = fin (evSs P (call P n) F.body (mkEnv us (F.ns - F.np)) ⟨[] :: s.rs, s.lk⟩) := by
  simp only [call, h, if_pos e]
  rfl
theorem mkEnv_cons (u : U) (us : List U) (n : Nat) : mkEnv (u :: us) n = some u :: mkEnv us n := rfl
theorem mkEnv_nil_0 : mkEnv [] 0 = [] := rfl
theorem mkEnv_nil_s (n : Nat) : mkEnv [] (n + 1) = none :: mkEnv [] n := rfl
theorem pus_d : ∀ l : List D, pus (l.map U.d) = some l
  | [] => rfl
  | x :: r => by rw [List.map_cons, pus, pus_d r]; rfl
theorem tupU_2 (x y : D) : tupU [.d x, .d y] = some (.d (.tup [x, y])) := rfl
theorem toD_d (s : Stk) (n : Nat) (x : D) : toD s n (.d x) = some x := by cases n <;> rfl
theorem lstOf_lst (s : Stk) (l : List D) : lstOf s (.d (.lst l)) = some (l.map .d) := rfl
theorem walk_lst (s : Stk) (l : List D) : walkU s (.d (.lst l)) = some (l.map .d) := rfl
theorem walk_tup (s : Stk) (l : List D) : walkU s (.d (.tup l)) = some (l.map .d) := rfl
theorem walk_str (s : Stk) (l : S) : walkU s (.d (.str l)) = some (l.map fun c => .d (.str [c])) := rfl
theorem frzU_d (n : Nat) (s : Stk) (x : D) : frzU n s (.d x) = .ok (.d x) s := by cases n <;> rfl
theorem truth_bl (s : Stk) (b : Bool) : truth s (.d (.bl b)) = some b := rfl
theorem truth_int (s : Stk) (b : Int) : truth s (.d (.int b)) = some (b != 0) := rfl
theorem truth_lst (s : Stk) (b : List D) : truth s (.d (.lst b)) = some (!b.isEmpty) := rfl
theorem truth_non (s : Stk) : truth s (.d .non) = some false := rfl
theorem len_str (s : Stk) (x : S) : bfun .val .len s [.d (.str x)] = .ok (.d (.int x.length)) s := rfl
theorem len_lst (s : Stk) (x : List D) : bfun .val .len s [.d (.lst x)] = .ok (.d (.int x.length)) s := by
  simp only [bfun, lenU, lstOf, List.length_map, Option.map, RE.of]
theorem len_tup (s : Stk) (x : List D) : bfun .val .len s [.d (.tup x)] = .ok (.d (.int x.length)) s := by
  simp only [bfun, lenU, lstOf, tupOf, List.length_map, Option.map, RE.of]
theorem bls_map : ∀ l : List Bool, bls (l.map fun b => .d (.bl b)) = some l
  | [] => rfl
  | x :: r => by rw [List.map_cons, bls, bls_map r]; rfl
theorem all_map {α : Type} (s : Stk) (l : List α) (g : α → Bool) : bfun .val .all s [.d (.lst (l.map fun x => .bl (g x)))] = .ok (.d (.bl (l.all g))) s := by
  have e := bls_map (l.map g)
  rw [List.map_map] at e
  simp only [bfun, lstOf, List.map_map]
  rw [show (U.d ∘ fun x => D.bl (g x)) = ((fun b => U.d (.bl b)) ∘ g) from rfl, e]
  simp [RE.of, List.all_map, Function.comp_def]
theorem mkL_map {α : Type} (s : Stk) (l : List α) (g : α → D) : mkL .val (l.map fun x => .d (g x)) s = .ok (.d (.lst (l.map g))) s := by
  have e := pus_d (l.map g)
  rw [List.map_map] at e
  simp only [mkL]
  rw [show (fun x => U.d (g x)) = (U.d ∘ g) from rfl, e]
theorem ordI (s : Stk) (i j : Int) : ordU s (.d (.int i)) (.d (.int j)) = some (.int i, .int j) := by simp [ordU, toD_d, pl, alk, D.isN]
theorem ordS (s : Stk) (i j : S) : ordU s (.d (.str i)) (.d (.str j)) = some (.str i, .str j) := by simp [ordU, toD_d, pl, alk, D.isN]
theorem ltI (s : Stk) (i j : Int) : cmpU .lt s (.d (.int i)) (.d (.int j)) = some (decide (i < j)) := by simp only [cmpU, ordI, Option.map, ltD]
theorem leI (s : Stk) (i j : Int) : cmpU .le s (.d (.int i)) (.d (.int j)) = some (decide (i ≤ j)) := by
  simp only [cmpU, ordI, Option.map, ltD, Option.some.injEq]
  by_cases h : j < i <;> simp [h] <;> omega
theorem gtI (s : Stk) (i j : Int) : cmpU .gt s (.d (.int i)) (.d (.int j)) = some (decide (j < i)) := by simp only [cmpU, ordI, Option.map, ltD]
theorem geI (s : Stk) (i j : Int) : cmpU .ge s (.d (.int i)) (.d (.int j)) = some (decide (j ≤ i)) := by
  simp only [cmpU, ordI, Option.map, ltD, Option.some.injEq]
  by_cases h : i < j <;> simp [h] <;> omega
theorem inSign (s : Stk) (c : Nat) (z : S) : cmpU .inn s (.d (.str [c])) (.d (.str z)) = some (z.contains c) := rfl
theorem ninSign (s : Stk) (c : Nat) (z : S) : cmpU .nin s (.d (.str [c])) (.d (.str z)) = some (!z.contains c) := rfl
theorem compL_map {α : Type} {f : Im → Stk → RE (Option U)} {h : α → Im} (g : α → U) {s : Stk} : ∀ {l : List α}, (∀ x ∈ l, f (h x) s = .ok (some (g x)) s) → compL f (l.map h) s = .ok (l.map g) s
  | [], _ => rfl
  | x :: r, e => by
    rw [List.map_cons, compL, e x (List.mem_cons_self ..), RE.blk_ok, compL_map g fun y hy => e y (List.mem_cons_of_mem _ hy)]
    rfl
theorem RE.of_none {α : Type} (s : Stk) : RE.of (none : Option α) s = .no := rfl
theorem isN_non (s : Stk) : cmpU .is s (.d .non) (.d .non) = some true := rfl
theorem isnN_non (s : Stk) : cmpU .isn s (.d .non) (.d .non) = some false := rfl
theorem isN_int (s : Stk) (i : Int) : cmpU .is s (.d (.int i)) (.d .non) = some false := rfl
theorem isnN_int (s : Stk) (i : Int) : cmpU .isn s (.d (.int i)) (.d .non) = some true := rfl
theorem isB (s : Stk) (a b : Bool) : cmpU .is s (.d (.bl a)) (.d (.bl b)) = some (a == b) := rfl
theorem isnB (s : Stk) (a b : Bool) : cmpU .isn s (.d (.bl a)) (.d (.bl b)) = some (!(a == b)) := rfl
theorem eqI (s : Stk) (i j : Int) : cmpU .eq s (.d (.int i)) (.d (.int j)) = some (i == j) := by simp [cmpU, toD_d, pl, eqD]
theorem neI (s : Stk) (i j : Int) : cmpU .ne s (.d (.int i)) (.d (.int j)) = some (!(i == j)) := by simp [cmpU, toD_d, pl, eqD]
theorem eqS (s : Stk) (i j : S) : cmpU .eq s (.d (.str i)) (.d (.str j)) = some (i == j) := by simp [cmpU, toD_d, pl, eqD]
theorem neS (s : Stk) (i j : S) : cmpU .ne s (.d (.str i)) (.d (.str j)) = some (!(i == j)) := by simp [cmpU, toD_d, pl, eqD]
theorem ltS (s : Stk) (i j : S) : cmpU .lt s (.d (.str i)) (.d (.str j)) = some (decide (i < j)) := by simp only [cmpU, ordS, Option.map, ltD]
theorem leS (s : Stk) (i j : S) : cmpU .le s (.d (.str i)) (.d (.str j)) = some (!decide (j < i)) := by simp only [cmpU, ordS, Option.map, ltD]
theorem cond_ok {α : Type} (b : Bool) (x y : α) (s : Stk) : cond b (RE.ok x s) (RE.ok y s) = RE.ok (cond b x y) s := by cases b <;> rfl
theorem cond_bl (b p q : Bool) : cond b (U.d (D.bl p)) (U.d (D.bl q)) = U.d (D.bl (cond b p q)) := by cases b <;> rfl
theorem seq_cond (b : Bool) (x y : RS) (f : Env → Stk → RS) : (cond b x y).seq f = cond b (x.seq f) (y.seq f) := by cases b <;> rfl
theorem turn_cond (b : Bool) (x y : RS) (f : Env → Stk → RS) : (cond b x y).turn f = cond b (x.turn f) (y.turn f) := by cases b <;> rfl
theorem fin_cond (b : Bool) (x y : RS) : fin (cond b x y) = cond b (fin x) (fin y) := by cases b <;> rfl
theorem cond_f (b c : Bool) : cond b c false = (b && c) := by cases b <;> rfl
theorem cond_t (b c : Bool) : cond b true c = (b || c) := by cases b <;> rfl
theorem cond_ft (b : Bool) (c : Bool) : cond b false c = (!b && c) := by cases b <;> rfl
theorem ix_lst (s : Stk) (l : List D) (i : Int) : ixU s (.d (.lst l)) (.d (.int i)) = atI (l.map .d) i := rfl
theorem ix_tup (s : Stk) (l : List D) (i : Int) : ixU s (.d (.tup l)) (.d (.int i)) = atI (l.map .d) i := rfl
theorem ix_str (s : Stk) (l : S) (i : Int) : ixU s (.d (.str l)) (.d (.int i)) = (atI l i).map fun c => .d (.str [c]) := rfl
theorem at_0 {α : Type} (x : α) (l : List α) : atI (x :: l) 0 = some x := by simp [atI, ixN]
theorem unlock_lock (s : Stk) (l : List (Nat × Nat)) : (s.lock l).unlock s.lk = s := rfl
theorem lock_nil (s : Stk) : s.lock [] = s := rfl
theorem unlock_same (s : Stk) : s.unlock s.lk = s := rfl
theorem mkL_d (l : List D) (s : Stk) : mkL .val (l.map .d) s = .ok (.d (.lst l)) s := by simp only [mkL, pus_d]
theorem bind_name (i : Nat) (u : U) (ρ : Env) : bindT (.name i) (.one u) ρ = some (ρ.set i (some u)) := by rw [bindT]
theorem bind_two_one (a b : Tg) (x y : D) (ρ : Env) : bindT (.tup [a, b]) (.one (.d (.tup [x, y]))) ρ = match bindT a (.one (.d x)) ρ with | some ρ' => (match bindT b (.one (.d y)) ρ' with | some ρ'' => some ρ'' | none => none) | none => none := by
  simp only [bindT, tupOf, bindTs, List.map_cons, List.map_nil]
  all_goals rfl
theorem bind_two_many (a b : Tg) (x y : U) (ρ : Env) : bindT (.tup [a, b]) (.many [x, y]) ρ = match bindT a (.one x) ρ with | some ρ' => (match bindT b (.one y) ρ' with | some ρ'' => some ρ'' | none => none) | none => none := by
  simp only [bindT, bindTs]
  all_goals rfl
theorem lkOf_d (x : D) : lkOf (.d x) = [] := rfl
/-- a walk that keeps a state -/
inductive Go (A : Type) where
  | go (a : A) | out (r : RS)
def foldG {A α : Type} (step : A → α → Go A) (nx : A → RS) : List α → A → RS
  | [], a => nx a
  | x :: l, a => match step a x with
    | .go a' => foldG step nx l a'
    | .out r => r
theorem forL_fold {A α : Type} {F : Im → Env → Stk → RS} (h : α → Im) (enc : A → Env) (st : A → Stk) (step : A → α → Go A) : ∀ (l : List α) (a : A),
    (∀ a, ∀ x ∈ l, match step a x with | .go a' => F (h x) (enc a) (st a) = .nx (enc a') (st a') ∨ F (h x) (enc a) (st a) = .cnt (enc a') (st a') | .out r => F (h x) (enc a) (st a) = r ∧ ∀ k, r.turn k = r) →
    forL F (l.map h) (enc a) (st a) = foldG step (fun a => .nx (enc a) (st a)) l a
  | [], a, _ => rfl
  | x :: l, a, e => by
    rw [List.map_cons, forL, foldG]
    have e1 := e a x (List.mem_cons_self ..)
    cases e2 : step a x with
    | go a' =>
      rw [e2] at e1
      have ih := forL_fold h enc st step l a' fun a x hx => e a x (List.mem_cons_of_mem _ hx)
      rcases e1 with e1 | e1 <;> (rw [e1]; exact ih)
    | out r =>
      rw [e2] at e1
      rw [e1.1]
      exact e1.2 _
end Z
namespace Z
theorem tyS_l : (Ty.str == Ty.lst) = false := rfl
theorem tyS_b : (Ty.lst == Ty.str) = false := rfl
theorem tyS_i : (Ty.tup == Ty.lst) = false := rfl
end Z
namespace Z
theorem cond_or' (b c : Bool) : cond b b c = (b || c) := by cases b <;> rfl
theorem cond_and' (b c : Bool) : cond b c b = (b && c) := by cases b <;> rfl
theorem ok_bl {a b : Bool} {s : Stk} (h : a = b) : RE.ok (U.d (D.bl a)) ⟨s.rs, s.lk⟩ = RE.ok (U.d (D.bl b)) s := by rw [h]
theorem zipI_map {α β : Type} (f : α → U) (g : β → U) : ∀ (l : List α) (m : List β), zipI (l.map f) (m.map g) = (l.zip m).map fun p => .many [f p.1, g p.2]
  | [], _ => rfl
  | _ :: _, [] => rfl
  | x :: l, y :: m => by rw [List.map_cons, List.map_cons, zipI, zipI_map f g l m, List.zip_cons_cons, List.map_cons]
theorem zip_lst (s : Stk) (l m : List D) : zipU s (.d (.lst l)) (.d (.lst m)) = some ((l.zip m).map fun p => .many [.d p.1, .d p.2], []) := by
  simp only [zipU, lstOf, zipI_map, lkOf, List.append_nil]
theorem cut_map {α β : Type} (f : α → β) (l : List α) (a b : Option Int) : cut (l.map f) a b = (cut l a b).map f := by
  simp only [cut, List.length_map, List.map_take, List.map_drop]
theorem slc_lst (s : Stk) (l : List D) (a b : Option Int) : slcU .val s (.d (.lst l)) a b = .ok (.d (.lst (cut l a b))) s := by
  simp only [slcU, lstOf, cut_map, mkL_d]
theorem slc_str (s : Stk) (l : S) (a b : Option Int) : slcU .val s (.d (.str l)) a b = .ok (.d (.str (cut l a b))) s := rfl
theorem cut_from {α : Type} (l : List α) (n : Nat) : cut l (some (n : Int)) none = l.drop n := by
  simp only [cut, sIx]
  rw [if_neg (by omega)]
  simp only [Int.toNat_natCast]
  rw [List.take_of_length_le (by rw [List.length_drop]; omega)]
  by_cases h : n ≤ l.length
  · rw [Nat.min_eq_left h]
  · rw [Nat.min_eq_right (by omega), List.drop_eq_nil_of_le (by omega), List.drop_eq_nil_of_le (by omega)]
theorem cut_to {α : Type} (l : List α) (n : Nat) : cut l none (some (n : Int)) = l.take n := by
  simp only [cut, sIx]
  rw [if_neg (by omega)]
  simp only [Int.toNat_natCast, List.drop_zero, Nat.sub_zero]
  rw [Nat.min_def]
  split
  · rfl
  · rw [List.take_of_length_le (by omega), List.take_of_length_le (by omega)]
theorem atI_map {α β : Type} (f : α → β) (l : List α) (i : Int) : atI (l.map f) i = (atI l i).map f := by
  simp only [atI, List.length_map]
  cases ixN l.length i with
  | none => rfl
  | some j => exact List.getElem?_map
theorem atI_nat {α : Type} (l : List α) (n : Nat) : atI l (n : Int) = l[n]? := by
  simp only [atI, ixN]
  rw [if_pos (by omega)]
  split
  · rename_i j h
    split at h
    · cases h; rfl
    · cases h
  · rename_i h
    split at h
    · cases h
    · rename_i q
      rw [List.getElem?_eq_none (by omega)]
end Z
namespace Z
theorem enumI_map {α : Type} (f : α → U) : ∀ (l : List α) (n : Nat), enumI n (l.map f) = (l.zipIdx n).map fun p => .many [.d (.int (p.2 : Int)), f p.1]
  | [], _ => rfl
  | x :: l, n => by rw [List.map_cons, enumI, enumI_map f l (n + 1), List.zipIdx_cons, List.map_cons]
theorem forL_find {α : Type} {F : Im → Env → Stk → RS} (h : α → Im) (Inv : Env → Prop) (g : α → Option RS) (s : Stk) : ∀ (l pre : List α) (ρ : Env), Inv ρ → (∀ y ∈ pre, g y = none) →
    (∀ ρ, Inv ρ → ∀ p x q, pre ++ l = p ++ x :: q → (∀ y ∈ p, g y = none) → match g x with | none => ∃ ρ', Inv ρ' ∧ (F (h x) ρ s = .nx ρ' s ∨ F (h x) ρ s = .cnt ρ' s) | some r => F (h x) ρ s = r ∧ ∀ k, r.turn k = r) →
    (match l.findSome? g with | none => ∃ ρ', Inv ρ' ∧ forL F (l.map h) ρ s = .nx ρ' s | some r => forL F (l.map h) ρ s = r)
  | [], _, ρ, i, _, _ => ⟨ρ, i, rfl⟩
  | x :: l, pre, ρ, i, hp, e => by
    have e1 := e ρ i pre x l rfl hp
    rw [List.findSome?_cons]
    cases e2 : g x with
    | some r =>
      rw [e2] at e1
      simp only
      rw [List.map_cons, forL, e1.1]
      exact e1.2 _
    | none =>
      rw [e2] at e1
      obtain ⟨ρ', i', e3⟩ := e1
      have ih := forL_find h Inv g s l (pre ++ [x]) ρ' i' (fun y hy => by
        rcases List.mem_append.mp hy with hy | hy
        · exact hp y hy
        · simp at hy; subst hy; exact e2) (fun ρ i p y q eq hy => e ρ i p y q (by rw [← eq, List.append_assoc]; rfl) hy)
      simp only
      rw [List.map_cons, forL]
      rcases e3 with e3 | e3 <;> (rw [e3]; exact ih)
theorem pls_str : ∀ (n : Nat) (l : List S), pls n (l.map D.str) = true
  | _, [] => by simp [pls]
  | n, x :: l => by rw [List.map_cons, pls, pls_str n l]; cases n <;> simp [pl]
theorem inStrs (s : Stk) (z : S) (l : List S) : cmpU .inn s (.d (.str z)) (.d (.lst (l.map .str))) = some (l.contains z) := by
  simp only [cmpU, inU, asStr, dctOf, toD_d, pls_str, Bool.true_and]
  have e : pl dp (.str z) = true := rfl
  rw [e, if_pos rfl, List.any_map]
  congr 1
  induction l with
  | nil => rfl
  | cons x l ih =>
    rw [List.any_cons, List.contains_cons, ih]
    congr 1
    simp only [Function.comp, eqD]
    rw [Bool.eq_iff_iff, beq_iff_eq, beq_iff_eq]
    exact ⟨Eq.symm, Eq.symm⟩
theorem ninStrs (s : Stk) (z : S) (l : List S) : cmpU .nin s (.d (.str z)) (.d (.lst (l.map .str))) = some (!l.contains z) := by
  have := inStrs s z l
  simp only [cmpU] at this ⊢
  rw [this]; rfl
end Z
namespace Z
section
variable (P : Pg) (cl : Nat → List U → Stk → RE U) (ρ : Env) (s : Stk)
theorem evS_set (t : Tg) (e : E) : evS P cl (.set t e) ρ s = RS.of (evE P cl e ρ s) fun u s => RS.of (RE.of (bindT t (.one u) ρ) s) fun ρ' s => .nx ρ' s := rfl
theorem evS_par (is : List Nat) (es : List E) : evS P cl (.par is es) ρ s = RS.of (evEs P cl es ρ s) fun us s => if us.length = is.length then .nx (setAll ρ is us) s else .no := rfl
theorem evS_aug (i : Nat) (o : BOp) (e : E) : evS P cl (.aug i o e) ρ s = RS.of (RE.of (getV ρ i) s) fun x s => RS.of (evE P cl e ρ s) fun y s => RS.of (RE.of (augU o x y) s) fun z s => .nx (ρ.set i (some z)) s := rfl
theorem evS_exp (e : E) : evS P cl (.exp e) ρ s = RS.of (evE P cl e ρ s) fun _ s => .nx ρ s := rfl
theorem evS_ret (e : E) : evS P cl (.ret e) ρ s = RS.of (evE P cl e ρ s) fun u s => .ret u s := rfl
theorem evS_retN : evS P cl .retN ρ s = .ret (.d .non) s := rfl
theorem evS_ife (c : E) (a b : List St) : evS P cl (.ife c a b) ρ s = RS.of (evE P cl c ρ s) fun u s => RS.of (RE.of (truth s u) s) fun t s => cond t (evSs P cl a ρ s) (evSs P cl b ρ s) := rfl
theorem evS_raise (c : Nat) (es : List E) : evS P cl (.raise c es) ρ s = RS.of (evEs P cl es ρ s) fun us s => RS.of (RE.of (pus us) s) fun xs s => .ex c (if P.flds c = 0 then [] else xs) s := rfl
theorem evS_setix (o i e : E) : evS P cl (.setix o i e) ρ s = RS.of (evE P cl e ρ s) fun v s => RS.of (evE P cl o ρ s) fun x s => RS.of (evE P cl i ρ s) fun y s => RS.of (updC s x (setixC y v) [v]) fun _ s => .nx ρ s := rfl
theorem evS_setfld (o e : E) (c j : Nat) : evS P cl (.setfld o c j e) ρ s = RS.of (evE P cl e ρ s) fun v s => RS.of (evE P cl o ρ s) fun x s => RS.of (updC s x (setfldC c j v) [v]) fun _ s => .nx ρ s := rfl
theorem evS_try (b : List St) (hs : List Hd) : evS P cl (.try b hs) ρ s = (evSs P cl b ρ s).catch P hs := rfl
theorem evS_cont : evS P cl .cont ρ s = .cnt ρ s := rfl
theorem evS_brk : evS P cl .brk ρ s = .brk ρ s := rfl
theorem evS_pass : evS P cl .pass ρ s = .nx ρ s := rfl
theorem evS_for (t : Tg) (it : It) (b : List St) : evS P cl (.for t it b) ρ s = RS.of (evI P cl it ρ s) fun p s => (forL (fun x ρ s => RS.of (RE.of (bindT t x ρ) s) fun ρ1 s => evSs P cl b ρ1 s) p.1 ρ (s.lock p.2)).unlock s.lk := rfl
end
theorem binI (m : Md) (s : Stk) (o : BOp) (a b : Int) : binU m o s (.d (.int a)) (.d (.int b)) = RE.of ((intOp o a b).map fun k => .d (.int k)) s := by
  simp only [binU, asInt]
theorem op_add (a b : Int) : intOp .add a b = some (a + b) := rfl
theorem op_sub (a b : Int) : intOp .sub a b = some (a - b) := rfl
theorem RS.unlock_nx (ρ : Env) (s : Stk) : (RS.nx ρ s).unlock s.lk = .nx ρ s := rfl
theorem RS.unlock_ret (u : U) (s : Stk) : (RS.ret u s).unlock s.lk = .ret u s := rfl
theorem RS.unlock_ex (c : Nat) (vs : List D) (s : Stk) : (RS.ex c vs s).unlock s.lk = .ex c vs s := rfl
theorem zipIdx_at {α : Type} : ∀ {l : List α} {n : Nat} {p : List (α × Nat)} {x : α} {i : Nat} {q : List (α × Nat)}, l.zipIdx n = p ++ (x, i) :: q → i = n + p.length ∧ l[p.length]? = some x ∧ ∀ j, j < p.length → ∃ y, (y, n + j) ∈ p ∧ l[j]? = some y
  | [], n, p, x, i, q, h => by cases p <;> simp at h
  | y :: l, n, [], x, i, q, h => by
    rw [List.zipIdx_cons] at h
    simp at h
    exact ⟨h.1.2.symm, by simp [h.1.1], fun j hj => by simp at hj⟩
  | y :: l, n, z :: p, x, i, q, h => by
    rw [List.zipIdx_cons, List.cons_append] at h
    injection h with h1 h2
    obtain ⟨a, b, c⟩ := zipIdx_at h2
    refine ⟨by rw [a, List.length_cons]; omega, by rw [List.length_cons, List.getElem?_cons_succ]; exact b, fun j hj => ?_⟩
    cases j with
    | zero => exact ⟨y, by rw [← h1]; simp, rfl⟩
    | succ j =>
      obtain ⟨w, hw, e⟩ := c j (by simpa using hj)
      exact ⟨w, List.mem_cons_of_mem _ (by rw [show n + (j + 1) = n + 1 + j by omega]; exact hw), by rw [List.getElem?_cons_succ]; exact e⟩
end Z
namespace Z
theorem unlock_mk (rs : List (List Cell)) (a b : List (Nat × Nat)) : (⟨rs, a⟩ : Stk).unlock b = ⟨rs, b⟩ := rfl
end Z
namespace Z
theorem rngI_map : ∀ (n : Nat) (lo : Int), rngI lo n = (List.range n).map fun (i : Nat) => Im.one (.d (.int (lo + i)))
  | 0, _ => rfl
  | n + 1, lo => by
    rw [rngI, rngI_map n (lo + 1), List.range_succ_eq_map, List.map_cons, List.map_map]
    congr 1
    · simp
    · apply List.map_congr_left
      intro i _
      simp only [Function.comp]
      congr 3
      omega
theorem forL_inv {α : Type} {F : Im → Env → Stk → RS} (h : α → Im) (I : Nat → Env → Stk → Prop) : ∀ (l : List α) (n : Nat) (ρ : Env) (s : Stk), I n ρ s →
    (∀ i x ρ s, l[i]? = some x → I (n + i) ρ s → ∃ ρ' s', (F (h x) ρ s = .nx ρ' s' ∨ F (h x) ρ s = .cnt ρ' s') ∧ I (n + i + 1) ρ' s') → ∃ ρ' s', forL F (l.map h) ρ s = .nx ρ' s' ∧ I (n + l.length) ρ' s'
  | [], n, ρ, s, i, _ => ⟨ρ, s, rfl, i⟩
  | x :: l, n, ρ, s, i, e => by
    obtain ⟨ρ1, s1, e1, i1⟩ := e 0 x ρ s rfl i
    obtain ⟨ρ2, s2, e2, i2⟩ := forL_inv (F := F) h I l (n + 1) ρ1 s1 i1 fun j y ρ s hy hi => by
      have := e (j + 1) y ρ s (by rw [List.getElem?_cons_succ]; exact hy) (by rw [show n + (j + 1) = n + 1 + j by omega]; exact hi)
      rw [show n + (j + 1) + 1 = n + 1 + j + 1 by omega] at this
      exact this
    refine ⟨ρ2, s2, ?_, by rw [List.length_cons, show n + (l.length + 1) = n + 1 + l.length by omega]; exact i2⟩
    rw [List.map_cons, forL]
    rcases e1 with e1 | e1 <;> (rw [e1]; exact e2)
theorem get_top (c : Cell) (r : List Cell) (rs : List (List Cell)) : getL ((c :: r) :: rs) rs.length 0 = some c := by rw [getL, if_pos rfl]; rfl
theorem set_top (c d : Cell) (r : List Cell) (rs : List (List Cell)) : setL ((c :: r) :: rs) rs.length 0 d = (d :: r) :: rs := by rw [setL, if_pos rfl]; rfl
theorem append_top (us : List U) (r : List Cell) (rs : List (List Cell)) (x : D) (h : us.length < big) : bmeth .append ⟨(.lst us :: r) :: rs, []⟩ (.r rs.length 0) [.d x] = .ok (.d .non) ⟨(.lst (us ++ [.d x]) :: r) :: rs, []⟩ := by
  simp only [bmeth, updC, List.contains_nil, get_top, if_pos h, List.all_cons, List.all_nil, U.below, Bool.and_true, if_true, Stk.set, set_top]
  rfl
theorem bmOk_top (us : List U) (r : List Cell) (rs : List (List Cell)) : bmOk .append ⟨(.lst us :: r) :: rs, []⟩ (.r rs.length 0) = some () := by
  simp only [bmOk, lstW, lstOf, get_top]; rfl
theorem op_mul (a b : Int) (h : mulOk a b = true) : intOp .mul a b = some (a * b) := by simp only [intOp, h, if_true]
theorem op_mod (a b : Int) (h : 0 < b) : intOp .mod a b = some (a % b) := by simp only [intOp, h, if_true]
theorem op_fdiv (a b : Int) (h : 0 < b ∧ b < 1073741824) : intOp .fdiv a b = some (a / b) := by simp only [intOp, h, and_self, if_true]
theorem mul_l (a b : Int) (h1 : -(2 ^ 64) < a) (h2 : a < 2 ^ 64) : mulOk a b = true := by simp only [mulOk, decide_eq_true h1, decide_eq_true h2]; rfl
theorem mul_r (a b : Int) (h1 : -(2 ^ 64) < b) (h2 : b < 2 ^ 64) : mulOk a b = true := by simp only [mulOk, decide_eq_true h1, decide_eq_true h2, Bool.and_true, Bool.or_true]
theorem int_int (s : Stk) (i : Int) : bty .val .int s [.d (.int i)] = .ok (.d (.int i)) s := rfl
theorem int_bl (s : Stk) (b : Bool) : bty .val .int s [.d (.bl b)] = .ok (.d (.int (if b then 1 else 0))) s := rfl
theorem ix_scr (s : Stk) (l : List Int) (i : Int) : ixU s (.d (.scr l)) (.d (.int i)) = (atI l i).map fun n => .d (.int n) := by
  show atI (l.map fun n => U.d (.int n)) i = _
  rw [atI_map]
theorem len_scr (s : Stk) (x : List Int) : bfun .val .len s [.d (.scr x)] = .ok (.d (.int x.length)) s := by
  simp only [bfun, lenU, lstOf, List.length_map, Option.map, RE.of]
end Z
namespace Z
theorem mkL_cell0 (us : List U) (rs : List (List Cell)) (l : List (Nat × Nat)) : mkL .cell us ⟨[] :: rs, l⟩ = .ok (.r rs.length 0) ⟨[.lst us] :: rs, l⟩ := rfl
theorem alloc_0 (c : Cell) (rs : List (List Cell)) (l : List (Nat × Nat)) : alloc c ⟨[] :: rs, l⟩ = .ok (.r rs.length 0) ⟨[c] :: rs, l⟩ := rfl
theorem frz_fold (n : Nat) (s : Stk) : ∀ l : List D, (l.map U.d).foldr (fun u o => match o with | some (l, s) => (match frz n s u with | some (x, s') => some (x :: l, s') | none => none) | none => none) (some ([], s)) = some (l, s)
  | [] => rfl
  | x :: l => by
    rw [List.map_cons, List.foldr_cons, frz_fold n s l]
    cases n <;> simp only [frz]
theorem frz_top (l : List D) (r : List Cell) (rs : List (List Cell)) (n : Nat) : frzU (n + 1) ⟨(.lst (l.map .d) :: r) :: rs, []⟩ (.r rs.length 0) = .ok (.d (.lst l)) ⟨(.gone :: r) :: rs, []⟩ := by
  have e := frz_fold n ⟨(.gone :: r) :: rs, []⟩ l
  simp only [frzU, frz, List.contains_nil, get_top, Bool.false_eq_true, if_false, Stk.set, set_top]
  exact congrArg (fun o : Option (List D × Stk) => (match (match o with | some (l, s') => some (D.lst l, s') | none => none) with | some (x, s') => RE.ok (U.d x) s' | none => RE.no : RE U)) e
theorem fin_top (l : List D) (r : List Cell) (rs : List (List Cell)) : fin (.ret (.r rs.length 0) ⟨(.lst (l.map .d) :: r) :: rs, []⟩) = .ok (.d (.lst l)) ⟨rs, []⟩ := by
  simp only [fin, frz_top, RE.bind_ok]
  rfl
theorem rng1_nat (n : Nat) (h : n ≤ 16777216) : rng1 (.d (.int n)) = some ((List.range n).map fun (i : Nat) => Im.one (.d (.int (0 + i))), []) := by
  have e : ((n : Int) ≤ (big : Int) ∧ -(2 ^ 62) ≤ (n : Int)) := ⟨Int.ofNat_le.mpr h, by omega⟩
  simp only [rng1, if_pos e, Int.toNat_natCast, rngI_map]
end Z
end

section
set_option autoImplicit false
namespace Z
theorem unlock_nx_mk (ρ : Env) (rs : List (List Cell)) (a b : List (Nat × Nat)) : (RS.nx ρ ⟨rs, a⟩).unlock b = .nx ρ ⟨rs, b⟩ := rfl
theorem unlock_ret_mk (u : U) (rs : List (List Cell)) (a b : List (Nat × Nat)) : (RS.ret u ⟨rs, a⟩).unlock b = .ret u ⟨rs, b⟩ := rfl
end Z
end

section
set_option autoImplicit false
namespace Z
def sortS (l : List S) : List S := l.mergeSort fun a b => !decide (b < a)
theorem sortD_str (l : List S) : sortD (l.map .str) = (sortS l).map .str := by
  rw [sortS]
  exact (List.map_mergeSort (r := fun a b : S => !decide (b < a)) (s := fun a b => !ltD b a) (f := D.str) (l := l) (fun a _ b _ => rfl)).symm
theorem s_irr (a : S) : ¬a < a := List.lt_irrefl a
theorem s_tri (a b : S) : a < b ∨ a = b ∨ b < a := by
  by_cases h1 : a < b
  · exact .inl h1
  · by_cases h2 : b < a
    · exact .inr (.inr h2)
    · exact .inr (.inl (List.le_antisymm (List.not_lt.mp h2) (List.not_lt.mp h1)))
theorem sortS_perm (l : List S) : (sortS l).Perm l := List.mergeSort_perm l _
theorem sortS_pw (l : List S) : (sortS l).Pairwise fun a b => ¬b < a := by
  have := List.pairwise_mergeSort (le := fun a b : S => !decide (b < a)) (fun a b c h1 h2 => by
    simp at *
    exact List.le_trans h1 h2) (fun a b => by
    simp
    exact List.le_total a b) l
  refine this.imp fun h => ?_
  simpa using h
theorem sortS_lt (l : List S) (h : l.Nodup) : (sortS l).Pairwise (· < ·) := by
  have nd : (sortS l).Nodup := (sortS_perm l).nodup_iff.mpr h
  refine ((sortS_pw l).and nd).imp fun h => ?_
  rcases s_tri _ _ with h1 | h1 | h1
  · exact h1
  · exact absurd h1 h.2
  · exact absurd h1 h.1
theorem pw_asc : ∀ {l : List S}, l.Pairwise (· < ·) → (l.zip (l.drop 1)).all (fun p => decide (p.1 < p.2)) = true
  | [], _ => rfl
  | [x], _ => rfl
  | x :: y :: l, h => by
    have h1 := pw_asc (List.pairwise_cons.mp h).2
    simp only [List.drop_succ_cons, List.drop_zero, List.zip_cons_cons, List.all_cons, Bool.and_eq_true] at h1 ⊢
    exact ⟨decide_eq_true ((List.pairwise_cons.mp h).1 y (List.mem_cons_self ..)), h1⟩
theorem sortable_str (l : List S) : sortable (l.map .str) = true := by
  simp only [sortable, pls_str, Bool.true_and, List.all_map, List.all_eq_true]
  intro x hx
  simp [D.isN, D.isT0, alk]
theorem noMix_str (l : List S) : noMix (l.map .str) = true := by
  simp [noMix, List.all_map, D.isT]
theorem sorted_str (s : Stk) (l : List S) : bfun .val .sorted s [.d (.lst (l.map .str))] = .ok (.d (.lst ((sortS l).map .str))) s := by
  simp only [bfun, lstOf, pus_d, sortable_str, noMix_str, Bool.and_self, if_true, sortD_str, mkL_d]
end Z
end

section
set_option autoImplicit false
set_option linter.all false
namespace Z
open Z.Law
def isLow (c : Nat) : Bool := ([97, 98, 99, 100, 101, 102, 103, 104, 105, 106, 107, 108, 109, 110, 111, 112, 113, 114, 115, 116, 117, 118, 119, 120, 121, 122] : List Nat).contains c
def isFig (c : Nat) : Bool := ([48, 49, 50, 51, 52, 53, 54, 55, 56, 57] : List Nat).contains c
def nameS : S → Bool
  | [] => false
  | c :: r => decide (r.length < 12) && isLow c && (c :: r).all fun c => isLow c || isFig c
def isName : D → Bool
  | .str x => nameS x
  | _ => false
def notObj : D → Bool
  | .obj _ _ => false
  | .scr _ => false
  | _ => true
structure HN (P : Pg) : Prop where
  is_whole : P.fn 137 = some f__law_is_integer
  is_name : P.fn 557 = some f_is_name
  is_pair : P.fn 562 = some f_is_pair
  is_ascending : P.fn 524 = some f_is_ascending
  are_names : P.fn 303 = some f_are_names
  letters : P.con 3 = .str [97, 98, 99, 100, 101, 102, 103, 104, 105, 106, 107, 108, 109, 110, 111, 112, 113, 114, 115, 116, 117, 118, 119, 120, 121, 122]
  figures : P.con 1 = .str [48, 49, 50, 51, 52, 53, 54, 55, 56, 57]
  signs : P.con 15 = .int 12
variable {P : Pg}
theorem is_name_eq (H : HN P) (x : D) (hx : notObj x = true) (s : Stk) (k : Nat) : call P (k + 1) 557 [.d x] s = .ok (.d (.bl (isName x))) s := by
  rw [call_eq H.is_name rfl]
  cases x with
  | str v =>
    cases v with
    | nil =>
      simp only [f_is_name, H.letters, H.figures, H.signs, evSs, evS_set, evS_par, evS_aug, evS_exp, evS_ret, evS_retN, evS_ife, evS_raise, evS_setix, evS_setfld, evS_try, evS_cont, evS_brk, evS_pass, evE, evEs, evC, evI, evO, RE.bind_ok, RE.bind_ex, RE.blk_ok, RE.of_some, RE.of_none, binI, op_add, op_sub, RS.unlock_nx, RS.unlock_ret, RS.unlock_ex, RS.of_ok, RS.of_ex, RS.seq_nx, RS.seq_ret, RS.seq_ex, RS.seq_cnt, RS.turn_nx, RS.turn_cnt, RS.turn_ret, RS.turn_ex, getV_0, getV_s, set_0, set_s, ewipe_nil, ewipe_cons, truth_bl, truth_int, truth_lst, truth_non, isTy, len_str, len_lst, len_tup, leI, ltI, gtI, geI, eqI, neI, eqS, neS, ltS, leS, inSign, ninSign, isN_non, isnN_non, isN_int, isnN_int, isB, isnB, fin_ret, fin_nx, fin_ex, fin_cond, seq_cond, turn_cond, cond_ok, cond_bl, cond_f, cond_t, cond_ft, cond_or', cond_and', zip_lst, slc_lst, slc_str, ix_lst, ix_tup, ix_str, at_0, unlock_lock, unlock_same, unlock_mk, lock_nil, mkEnv_cons, mkEnv_nil_0, mkEnv_nil_s, Nat.reduceSub, Nat.sub_self, Nat.reduceAdd, Nat.add_zero, beq_self_eq_true, Bool.not_true, Bool.not_false, cond_true, cond_false, bind_name, bind_two_one, bind_two_many, asInt, List.map_cons, List.map_nil, Bool.or_true, Bool.true_or, Bool.or_false, Bool.false_or, Bool.and_true, Bool.true_and, Bool.and_false, Bool.false_and, walk_lst, walk_tup, walk_str, lkOf_d, List.map_map, Function.comp_def, reduceCtorEq, ix_scr, len_scr, int_int, int_bl, tyS_l, tyS_b, tyS_i, Option.map_some, lstOf_lst, mkL_cell0, alloc_0]
      rfl
    | cons c r =>
      obtain ⟨v, hv⟩ : ∃ v, v = c :: r := ⟨_, rfl⟩
      have h0 : atI v 0 = some c := by rw [hv]; exact at_0 _ _
      have hl : v.length = r.length + 1 := by rw [hv]; rfl
      rw [← hv]
      simp only [f_is_name, H.letters, H.figures, H.signs, evSs, evS_set, evS_par, evS_aug, evS_exp, evS_ret, evS_retN, evS_ife, evS_raise, evS_setix, evS_setfld, evS_try, evS_cont, evS_brk, evS_pass, evE, evEs, evC, evI, evO, RE.bind_ok, RE.bind_ex, RE.blk_ok, RE.of_some, RE.of_none, binI, op_add, op_sub, RS.unlock_nx, RS.unlock_ret, RS.unlock_ex, RS.of_ok, RS.of_ex, RS.seq_nx, RS.seq_ret, RS.seq_ex, RS.seq_cnt, RS.turn_nx, RS.turn_cnt, RS.turn_ret, RS.turn_ex, getV_0, getV_s, set_0, set_s, ewipe_nil, ewipe_cons, truth_bl, truth_int, truth_lst, truth_non, isTy, len_str, len_lst, len_tup, leI, ltI, gtI, geI, eqI, neI, eqS, neS, ltS, leS, inSign, ninSign, isN_non, isnN_non, isN_int, isnN_int, isB, isnB, fin_ret, fin_nx, fin_ex, fin_cond, seq_cond, turn_cond, cond_ok, cond_bl, cond_f, cond_t, cond_ft, cond_or', cond_and', zip_lst, slc_lst, slc_str, ix_lst, ix_tup, ix_str, at_0, unlock_lock, unlock_same, unlock_mk, lock_nil, mkEnv_cons, mkEnv_nil_0, mkEnv_nil_s, Nat.reduceSub, Nat.sub_self, Nat.reduceAdd, Nat.add_zero, beq_self_eq_true, Bool.not_true, Bool.not_false, cond_true, cond_false, bind_name, bind_two_one, bind_two_many, asInt, List.map_cons, List.map_nil, Bool.or_true, Bool.true_or, Bool.or_false, Bool.false_or, Bool.and_true, Bool.true_and, Bool.and_false, Bool.false_and, walk_lst, walk_tup, walk_str, lkOf_d, List.map_map, Function.comp_def, reduceCtorEq, ix_scr, len_scr, int_int, int_bl, tyS_l, tyS_b, tyS_i, Option.map_some, lstOf_lst, mkL_cell0, alloc_0, h0]
      rw [compL_map (h := fun c => Im.one (.d (.str [c]))) (g := fun c => .d (.bl (isLow c || isFig c))) (fun c _ => by
        simp only [evSs, evS_set, evS_par, evS_aug, evS_exp, evS_ret, evS_retN, evS_ife, evS_raise, evS_setix, evS_setfld, evS_try, evS_cont, evS_brk, evS_pass, evE, evEs, evC, evI, evO, RE.bind_ok, RE.bind_ex, RE.blk_ok, RE.of_some, RE.of_none, binI, op_add, op_sub, RS.unlock_nx, RS.unlock_ret, RS.unlock_ex, RS.of_ok, RS.of_ex, RS.seq_nx, RS.seq_ret, RS.seq_ex, RS.seq_cnt, RS.turn_nx, RS.turn_cnt, RS.turn_ret, RS.turn_ex, getV_0, getV_s, set_0, set_s, ewipe_nil, ewipe_cons, truth_bl, truth_int, truth_lst, truth_non, isTy, len_str, len_lst, len_tup, leI, ltI, gtI, geI, eqI, neI, eqS, neS, ltS, leS, inSign, ninSign, isN_non, isnN_non, isN_int, isnN_int, isB, isnB, fin_ret, fin_nx, fin_ex, fin_cond, seq_cond, turn_cond, cond_ok, cond_bl, cond_f, cond_t, cond_ft, cond_or', cond_and', zip_lst, slc_lst, slc_str, ix_lst, ix_tup, ix_str, at_0, unlock_lock, unlock_same, unlock_mk, lock_nil, mkEnv_cons, mkEnv_nil_0, mkEnv_nil_s, Nat.reduceSub, Nat.sub_self, Nat.reduceAdd, Nat.add_zero, beq_self_eq_true, Bool.not_true, Bool.not_false, cond_true, cond_false, bind_name, bind_two_one, bind_two_many, asInt, List.map_cons, List.map_nil, Bool.or_true, Bool.true_or, Bool.or_false, Bool.false_or, Bool.and_true, Bool.true_and, Bool.and_false, Bool.false_and, walk_lst, walk_tup, walk_str, lkOf_d, List.map_map, Function.comp_def, reduceCtorEq, ix_scr, len_scr, int_int, int_bl, tyS_l, tyS_b, tyS_i, Option.map_some, lstOf_lst, mkL_cell0, alloc_0]; rfl)]
      simp only [evSs, evS_set, evS_par, evS_aug, evS_exp, evS_ret, evS_retN, evS_ife, evS_raise, evS_setix, evS_setfld, evS_try, evS_cont, evS_brk, evS_pass, evE, evEs, evC, evI, evO, RE.bind_ok, RE.bind_ex, RE.blk_ok, RE.of_some, RE.of_none, binI, op_add, op_sub, RS.unlock_nx, RS.unlock_ret, RS.unlock_ex, RS.of_ok, RS.of_ex, RS.seq_nx, RS.seq_ret, RS.seq_ex, RS.seq_cnt, RS.turn_nx, RS.turn_cnt, RS.turn_ret, RS.turn_ex, getV_0, getV_s, set_0, set_s, ewipe_nil, ewipe_cons, truth_bl, truth_int, truth_lst, truth_non, isTy, len_str, len_lst, len_tup, leI, ltI, gtI, geI, eqI, neI, eqS, neS, ltS, leS, inSign, ninSign, isN_non, isnN_non, isN_int, isnN_int, isB, isnB, fin_ret, fin_nx, fin_ex, fin_cond, seq_cond, turn_cond, cond_ok, cond_bl, cond_f, cond_t, cond_ft, cond_or', cond_and', zip_lst, slc_lst, slc_str, ix_lst, ix_tup, ix_str, at_0, unlock_lock, unlock_same, unlock_mk, lock_nil, mkEnv_cons, mkEnv_nil_0, mkEnv_nil_s, Nat.reduceSub, Nat.sub_self, Nat.reduceAdd, Nat.add_zero, beq_self_eq_true, Bool.not_true, Bool.not_false, cond_true, cond_false, bind_name, bind_two_one, bind_two_many, asInt, List.map_cons, List.map_nil, Bool.or_true, Bool.true_or, Bool.or_false, Bool.false_or, Bool.and_true, Bool.true_and, Bool.and_false, Bool.false_and, walk_lst, walk_tup, walk_str, lkOf_d, List.map_map, Function.comp_def, reduceCtorEq, ix_scr, len_scr, int_int, int_bl, tyS_l, tyS_b, tyS_i, Option.map_some, lstOf_lst, mkL_cell0, alloc_0, mkL_map, all_map]
      refine ok_bl ?_
      have e : isName (.str v) = (decide (r.length < 12) && isLow c && v.all fun c => isLow c || isFig c) := by rw [hv]; rfl
      rw [e]
      have e1 : decide (1 ≤ (v.length : Int)) = true := by simp; omega
      have e2 : decide ((v.length : Int) ≤ 12) = decide (r.length < 12) := by simp only [hl]; congr 1; apply propext; omega
      rw [e1, e2]
      show (!!(true && _) && (!!isLow c && _)) = _
      cases decide (r.length < 12) <;> cases isLow c <;> rfl
  | obj => cases hx
  | scr => cases hx
  | _ =>
    simp only [f_is_name, H.letters, H.figures, H.signs, evSs, evS_set, evS_par, evS_aug, evS_exp, evS_ret, evS_retN, evS_ife, evS_raise, evS_setix, evS_setfld, evS_try, evS_cont, evS_brk, evS_pass, evE, evEs, evC, evI, evO, RE.bind_ok, RE.bind_ex, RE.blk_ok, RE.of_some, RE.of_none, binI, op_add, op_sub, RS.unlock_nx, RS.unlock_ret, RS.unlock_ex, RS.of_ok, RS.of_ex, RS.seq_nx, RS.seq_ret, RS.seq_ex, RS.seq_cnt, RS.turn_nx, RS.turn_cnt, RS.turn_ret, RS.turn_ex, getV_0, getV_s, set_0, set_s, ewipe_nil, ewipe_cons, truth_bl, truth_int, truth_lst, truth_non, isTy, len_str, len_lst, len_tup, leI, ltI, gtI, geI, eqI, neI, eqS, neS, ltS, leS, inSign, ninSign, isN_non, isnN_non, isN_int, isnN_int, isB, isnB, fin_ret, fin_nx, fin_ex, fin_cond, seq_cond, turn_cond, cond_ok, cond_bl, cond_f, cond_t, cond_ft, cond_or', cond_and', zip_lst, slc_lst, slc_str, ix_lst, ix_tup, ix_str, at_0, unlock_lock, unlock_same, unlock_mk, lock_nil, mkEnv_cons, mkEnv_nil_0, mkEnv_nil_s, Nat.reduceSub, Nat.sub_self, Nat.reduceAdd, Nat.add_zero, beq_self_eq_true, Bool.not_true, Bool.not_false, cond_true, cond_false, bind_name, bind_two_one, bind_two_many, asInt, List.map_cons, List.map_nil, Bool.or_true, Bool.true_or, Bool.or_false, Bool.false_or, Bool.and_true, Bool.true_and, Bool.and_false, Bool.false_and, walk_lst, walk_tup, walk_str, lkOf_d, List.map_map, Function.comp_def, reduceCtorEq, ix_scr, len_scr, int_int, int_bl, tyS_l, tyS_b, tyS_i, Option.map_some, lstOf_lst, mkL_cell0, alloc_0]
    rfl
def isInt : D → Bool
  | .int _ => true
  | _ => false
theorem is_whole_eq (H : HN P) (x : D) (hx : notObj x = true) (s : Stk) (k : Nat) : call P (k + 1) 137 [.d x] s = .ok (.d (.bl (isInt x))) s := by
  rw [call_eq H.is_whole rfl]
  cases x with
  | obj => cases hx
  | scr => cases hx
  | _ =>
    simp only [f__law_is_integer, evSs, evS_set, evS_par, evS_aug, evS_exp, evS_ret, evS_retN, evS_ife, evS_raise, evS_setix, evS_setfld, evS_try, evS_cont, evS_brk, evS_pass, evE, evEs, evC, evI, evO, RE.bind_ok, RE.bind_ex, RE.blk_ok, RE.of_some, RE.of_none, binI, op_add, op_sub, RS.unlock_nx, RS.unlock_ret, RS.unlock_ex, RS.of_ok, RS.of_ex, RS.seq_nx, RS.seq_ret, RS.seq_ex, RS.seq_cnt, RS.turn_nx, RS.turn_cnt, RS.turn_ret, RS.turn_ex, getV_0, getV_s, set_0, set_s, ewipe_nil, ewipe_cons, truth_bl, truth_int, truth_lst, truth_non, isTy, len_str, len_lst, len_tup, leI, ltI, gtI, geI, eqI, neI, eqS, neS, ltS, leS, inSign, ninSign, isN_non, isnN_non, isN_int, isnN_int, isB, isnB, fin_ret, fin_nx, fin_ex, fin_cond, seq_cond, turn_cond, cond_ok, cond_bl, cond_f, cond_t, cond_ft, cond_or', cond_and', zip_lst, slc_lst, slc_str, ix_lst, ix_tup, ix_str, at_0, unlock_lock, unlock_same, unlock_mk, lock_nil, mkEnv_cons, mkEnv_nil_0, mkEnv_nil_s, Nat.reduceSub, Nat.sub_self, Nat.reduceAdd, Nat.add_zero, beq_self_eq_true, Bool.not_true, Bool.not_false, cond_true, cond_false, bind_name, bind_two_one, bind_two_many, asInt, List.map_cons, List.map_nil, Bool.or_true, Bool.true_or, Bool.or_false, Bool.false_or, Bool.and_true, Bool.true_and, Bool.and_false, Bool.false_and, walk_lst, walk_tup, walk_str, lkOf_d, List.map_map, Function.comp_def, reduceCtorEq, ix_scr, len_scr, int_int, int_bl, tyS_l, tyS_b, tyS_i, Option.map_some, lstOf_lst, mkL_cell0, alloc_0]
    rfl
def isPair : D → Bool
  | .tup [_, _] => true
  | _ => false
theorem is_pair_eq (H : HN P) (x : D) (hx : notObj x = true) (s : Stk) (k : Nat) : call P (k + 1) 562 [.d x] s = .ok (.d (.bl (isPair x))) s := by
  rw [call_eq H.is_pair rfl]
  cases x with
  | obj => cases hx
  | scr => cases hx
  | tup xs =>
    simp only [f_is_pair, evSs, evS_set, evS_par, evS_aug, evS_exp, evS_ret, evS_retN, evS_ife, evS_raise, evS_setix, evS_setfld, evS_try, evS_cont, evS_brk, evS_pass, evE, evEs, evC, evI, evO, RE.bind_ok, RE.bind_ex, RE.blk_ok, RE.of_some, RE.of_none, binI, op_add, op_sub, RS.unlock_nx, RS.unlock_ret, RS.unlock_ex, RS.of_ok, RS.of_ex, RS.seq_nx, RS.seq_ret, RS.seq_ex, RS.seq_cnt, RS.turn_nx, RS.turn_cnt, RS.turn_ret, RS.turn_ex, getV_0, getV_s, set_0, set_s, ewipe_nil, ewipe_cons, truth_bl, truth_int, truth_lst, truth_non, isTy, len_str, len_lst, len_tup, leI, ltI, gtI, geI, eqI, neI, eqS, neS, ltS, leS, inSign, ninSign, isN_non, isnN_non, isN_int, isnN_int, isB, isnB, fin_ret, fin_nx, fin_ex, fin_cond, seq_cond, turn_cond, cond_ok, cond_bl, cond_f, cond_t, cond_ft, cond_or', cond_and', zip_lst, slc_lst, slc_str, ix_lst, ix_tup, ix_str, at_0, unlock_lock, unlock_same, unlock_mk, lock_nil, mkEnv_cons, mkEnv_nil_0, mkEnv_nil_s, Nat.reduceSub, Nat.sub_self, Nat.reduceAdd, Nat.add_zero, beq_self_eq_true, Bool.not_true, Bool.not_false, cond_true, cond_false, bind_name, bind_two_one, bind_two_many, asInt, List.map_cons, List.map_nil, Bool.or_true, Bool.true_or, Bool.or_false, Bool.false_or, Bool.and_true, Bool.true_and, Bool.and_false, Bool.false_and, walk_lst, walk_tup, walk_str, lkOf_d, List.map_map, Function.comp_def, reduceCtorEq, ix_scr, len_scr, int_int, int_bl, tyS_l, tyS_b, tyS_i, Option.map_some, lstOf_lst, mkL_cell0, alloc_0]
    refine ok_bl ?_
    rcases xs with _ | ⟨a, _ | ⟨b, _ | ⟨d, xs⟩⟩⟩
    · rfl
    · rfl
    · rfl
    · simp [isPair]; omega
  | _ =>
    simp only [f_is_pair, evSs, evS_set, evS_par, evS_aug, evS_exp, evS_ret, evS_retN, evS_ife, evS_raise, evS_setix, evS_setfld, evS_try, evS_cont, evS_brk, evS_pass, evE, evEs, evC, evI, evO, RE.bind_ok, RE.bind_ex, RE.blk_ok, RE.of_some, RE.of_none, binI, op_add, op_sub, RS.unlock_nx, RS.unlock_ret, RS.unlock_ex, RS.of_ok, RS.of_ex, RS.seq_nx, RS.seq_ret, RS.seq_ex, RS.seq_cnt, RS.turn_nx, RS.turn_cnt, RS.turn_ret, RS.turn_ex, getV_0, getV_s, set_0, set_s, ewipe_nil, ewipe_cons, truth_bl, truth_int, truth_lst, truth_non, isTy, len_str, len_lst, len_tup, leI, ltI, gtI, geI, eqI, neI, eqS, neS, ltS, leS, inSign, ninSign, isN_non, isnN_non, isN_int, isnN_int, isB, isnB, fin_ret, fin_nx, fin_ex, fin_cond, seq_cond, turn_cond, cond_ok, cond_bl, cond_f, cond_t, cond_ft, cond_or', cond_and', zip_lst, slc_lst, slc_str, ix_lst, ix_tup, ix_str, at_0, unlock_lock, unlock_same, unlock_mk, lock_nil, mkEnv_cons, mkEnv_nil_0, mkEnv_nil_s, Nat.reduceSub, Nat.sub_self, Nat.reduceAdd, Nat.add_zero, beq_self_eq_true, Bool.not_true, Bool.not_false, cond_true, cond_false, bind_name, bind_two_one, bind_two_many, asInt, List.map_cons, List.map_nil, Bool.or_true, Bool.true_or, Bool.or_false, Bool.false_or, Bool.and_true, Bool.true_and, Bool.and_false, Bool.false_and, walk_lst, walk_tup, walk_str, lkOf_d, List.map_map, Function.comp_def, reduceCtorEq, ix_scr, len_scr, int_int, int_bl, tyS_l, tyS_b, tyS_i, Option.map_some, lstOf_lst, mkL_cell0, alloc_0]
    rfl
/-- each before the next -/
def asc (l : List S) : Bool := (l.zip (l.drop 1)).all fun p => decide (p.1 < p.2)
def strD (l : List S) : D := .lst (l.map .str)
theorem is_asc_eq (H : HN P) (l : List S) (s : Stk) (k : Nat) : call P (k + 1) 524 [.d (strD l)] s = .ok (.d (.bl (asc l))) s := by
  rw [call_eq H.is_ascending rfl]
  simp only [f_is_ascending, strD, evSs, evS_set, evS_par, evS_aug, evS_exp, evS_ret, evS_retN, evS_ife, evS_raise, evS_setix, evS_setfld, evS_try, evS_cont, evS_brk, evS_pass, evE, evEs, evC, evI, evO, RE.bind_ok, RE.bind_ex, RE.blk_ok, RE.of_some, RE.of_none, binI, op_add, op_sub, RS.unlock_nx, RS.unlock_ret, RS.unlock_ex, RS.of_ok, RS.of_ex, RS.seq_nx, RS.seq_ret, RS.seq_ex, RS.seq_cnt, RS.turn_nx, RS.turn_cnt, RS.turn_ret, RS.turn_ex, getV_0, getV_s, set_0, set_s, ewipe_nil, ewipe_cons, truth_bl, truth_int, truth_lst, truth_non, isTy, len_str, len_lst, len_tup, leI, ltI, gtI, geI, eqI, neI, eqS, neS, ltS, leS, inSign, ninSign, isN_non, isnN_non, isN_int, isnN_int, isB, isnB, fin_ret, fin_nx, fin_ex, fin_cond, seq_cond, turn_cond, cond_ok, cond_bl, cond_f, cond_t, cond_ft, cond_or', cond_and', zip_lst, slc_lst, slc_str, ix_lst, ix_tup, ix_str, at_0, unlock_lock, unlock_same, unlock_mk, lock_nil, mkEnv_cons, mkEnv_nil_0, mkEnv_nil_s, Nat.reduceSub, Nat.sub_self, Nat.reduceAdd, Nat.add_zero, beq_self_eq_true, Bool.not_true, Bool.not_false, cond_true, cond_false, bind_name, bind_two_one, bind_two_many, asInt, List.map_cons, List.map_nil, Bool.or_true, Bool.true_or, Bool.or_false, Bool.false_or, Bool.and_true, Bool.true_and, Bool.and_false, Bool.false_and, walk_lst, walk_tup, walk_str, lkOf_d, List.map_map, Function.comp_def, reduceCtorEq, ix_scr, len_scr, int_int, int_bl, tyS_l, tyS_b, tyS_i, Option.map_some, lstOf_lst, mkL_cell0, alloc_0]
  rw [show (1 : Int) = ((1 : Nat) : Int) from rfl, cut_from, ← List.map_drop, List.zip_map, List.map_map]
  rw [compL_map (h := ((fun p : D × D => Im.many [.d p.1, .d p.2]) ∘ Prod.map D.str D.str)) (g := fun p => .d (.bl (decide (p.1 < p.2)))) (fun c _ => by
    simp only [Function.comp, Prod.map, evSs, evS_set, evS_par, evS_aug, evS_exp, evS_ret, evS_retN, evS_ife, evS_raise, evS_setix, evS_setfld, evS_try, evS_cont, evS_brk, evS_pass, evE, evEs, evC, evI, evO, RE.bind_ok, RE.bind_ex, RE.blk_ok, RE.of_some, RE.of_none, binI, op_add, op_sub, RS.unlock_nx, RS.unlock_ret, RS.unlock_ex, RS.of_ok, RS.of_ex, RS.seq_nx, RS.seq_ret, RS.seq_ex, RS.seq_cnt, RS.turn_nx, RS.turn_cnt, RS.turn_ret, RS.turn_ex, getV_0, getV_s, set_0, set_s, ewipe_nil, ewipe_cons, truth_bl, truth_int, truth_lst, truth_non, isTy, len_str, len_lst, len_tup, leI, ltI, gtI, geI, eqI, neI, eqS, neS, ltS, leS, inSign, ninSign, isN_non, isnN_non, isN_int, isnN_int, isB, isnB, fin_ret, fin_nx, fin_ex, fin_cond, seq_cond, turn_cond, cond_ok, cond_bl, cond_f, cond_t, cond_ft, cond_or', cond_and', zip_lst, slc_lst, slc_str, ix_lst, ix_tup, ix_str, at_0, unlock_lock, unlock_same, unlock_mk, lock_nil, mkEnv_cons, mkEnv_nil_0, mkEnv_nil_s, Nat.reduceSub, Nat.sub_self, Nat.reduceAdd, Nat.add_zero, beq_self_eq_true, Bool.not_true, Bool.not_false, cond_true, cond_false, bind_name, bind_two_one, bind_two_many, asInt, List.map_cons, List.map_nil, Bool.or_true, Bool.true_or, Bool.or_false, Bool.false_or, Bool.and_true, Bool.true_and, Bool.and_false, Bool.false_and, walk_lst, walk_tup, walk_str, lkOf_d, List.map_map, Function.comp_def, reduceCtorEq, ix_scr, len_scr, int_int, int_bl, tyS_l, tyS_b, tyS_i, Option.map_some, lstOf_lst, mkL_cell0, alloc_0])]
  simp only [evSs, evS_set, evS_par, evS_aug, evS_exp, evS_ret, evS_retN, evS_ife, evS_raise, evS_setix, evS_setfld, evS_try, evS_cont, evS_brk, evS_pass, evE, evEs, evC, evI, evO, RE.bind_ok, RE.bind_ex, RE.blk_ok, RE.of_some, RE.of_none, binI, op_add, op_sub, RS.unlock_nx, RS.unlock_ret, RS.unlock_ex, RS.of_ok, RS.of_ex, RS.seq_nx, RS.seq_ret, RS.seq_ex, RS.seq_cnt, RS.turn_nx, RS.turn_cnt, RS.turn_ret, RS.turn_ex, getV_0, getV_s, set_0, set_s, ewipe_nil, ewipe_cons, truth_bl, truth_int, truth_lst, truth_non, isTy, len_str, len_lst, len_tup, leI, ltI, gtI, geI, eqI, neI, eqS, neS, ltS, leS, inSign, ninSign, isN_non, isnN_non, isN_int, isnN_int, isB, isnB, fin_ret, fin_nx, fin_ex, fin_cond, seq_cond, turn_cond, cond_ok, cond_bl, cond_f, cond_t, cond_ft, cond_or', cond_and', zip_lst, slc_lst, slc_str, ix_lst, ix_tup, ix_str, at_0, unlock_lock, unlock_same, unlock_mk, lock_nil, mkEnv_cons, mkEnv_nil_0, mkEnv_nil_s, Nat.reduceSub, Nat.sub_self, Nat.reduceAdd, Nat.add_zero, beq_self_eq_true, Bool.not_true, Bool.not_false, cond_true, cond_false, bind_name, bind_two_one, bind_two_many, asInt, List.map_cons, List.map_nil, Bool.or_true, Bool.true_or, Bool.or_false, Bool.false_or, Bool.and_true, Bool.true_and, Bool.and_false, Bool.false_and, walk_lst, walk_tup, walk_str, lkOf_d, List.map_map, Function.comp_def, reduceCtorEq, ix_scr, len_scr, int_int, int_bl, tyS_l, tyS_b, tyS_i, Option.map_some, lstOf_lst, mkL_cell0, alloc_0, mkL_map, all_map]
  rfl
def isStr : D → Bool
  | .str _ => true
  | _ => false
/-- the texts of a list, all names, ascending -/
def txt : D → Option S
  | .str z => some z
  | _ => none
theorem txt_map : ∀ l : List S, (l.map D.str).filterMap txt = l
  | [] => rfl
  | x :: l => by rw [List.map_cons, List.filterMap_cons]; simp only [txt]; rw [txt_map l]
def areNames : D → Bool
  | .lst xs => xs.all isName && asc (xs.filterMap txt)
  | _ => false
theorem names_str : ∀ {xs : List D}, xs.all isName = true → ∃ l : List S, xs = l.map .str
  | [], _ => ⟨[], rfl⟩
  | x :: xs, h => by
    rw [List.all_cons, Bool.and_eq_true] at h
    obtain ⟨l, rfl⟩ := names_str h.2
    cases x with
    | str z => exact ⟨z :: l, rfl⟩
    | _ => cases h.1
def flat1 : D → Bool
  | .lst xs => xs.all notObj
  | x => notObj x
theorem are_names_eq (H : HN P) (x : D) (hx : flat1 x = true) (s : Stk) (k : Nat) : call P (k + 2) 303 [.d x] s = .ok (.d (.bl (areNames x))) s := by
  rw [call_eq H.are_names rfl]
  cases x with
  | obj => cases hx
  | scr => cases hx
  | lst xs =>
    simp only [f_are_names, evSs, evS_set, evS_par, evS_aug, evS_exp, evS_ret, evS_retN, evS_ife, evS_raise, evS_setix, evS_setfld, evS_try, evS_cont, evS_brk, evS_pass, evE, evEs, evC, evI, evO, RE.bind_ok, RE.bind_ex, RE.blk_ok, RE.of_some, RE.of_none, binI, op_add, op_sub, RS.unlock_nx, RS.unlock_ret, RS.unlock_ex, RS.of_ok, RS.of_ex, RS.seq_nx, RS.seq_ret, RS.seq_ex, RS.seq_cnt, RS.turn_nx, RS.turn_cnt, RS.turn_ret, RS.turn_ex, getV_0, getV_s, set_0, set_s, ewipe_nil, ewipe_cons, truth_bl, truth_int, truth_lst, truth_non, isTy, len_str, len_lst, len_tup, leI, ltI, gtI, geI, eqI, neI, eqS, neS, ltS, leS, inSign, ninSign, isN_non, isnN_non, isN_int, isnN_int, isB, isnB, fin_ret, fin_nx, fin_ex, fin_cond, seq_cond, turn_cond, cond_ok, cond_bl, cond_f, cond_t, cond_ft, cond_or', cond_and', zip_lst, slc_lst, slc_str, ix_lst, ix_tup, ix_str, at_0, unlock_lock, unlock_same, unlock_mk, lock_nil, mkEnv_cons, mkEnv_nil_0, mkEnv_nil_s, Nat.reduceSub, Nat.sub_self, Nat.reduceAdd, Nat.add_zero, beq_self_eq_true, Bool.not_true, Bool.not_false, cond_true, cond_false, bind_name, bind_two_one, bind_two_many, asInt, List.map_cons, List.map_nil, Bool.or_true, Bool.true_or, Bool.or_false, Bool.false_or, Bool.and_true, Bool.true_and, Bool.and_false, Bool.false_and, walk_lst, walk_tup, walk_str, lkOf_d, List.map_map, Function.comp_def, reduceCtorEq, ix_scr, len_scr, int_int, int_bl, tyS_l, tyS_b, tyS_i, Option.map_some, lstOf_lst, mkL_cell0, alloc_0]
    rw [compL_map (h := fun c => Im.one (.d c)) (g := fun c => .d (.bl (isName c))) (fun c hc => by
      have := List.all_eq_true.mp hx c hc
      simp only [evSs, evS_set, evS_par, evS_aug, evS_exp, evS_ret, evS_retN, evS_ife, evS_raise, evS_setix, evS_setfld, evS_try, evS_cont, evS_brk, evS_pass, evE, evEs, evC, evI, evO, RE.bind_ok, RE.bind_ex, RE.blk_ok, RE.of_some, RE.of_none, binI, op_add, op_sub, RS.unlock_nx, RS.unlock_ret, RS.unlock_ex, RS.of_ok, RS.of_ex, RS.seq_nx, RS.seq_ret, RS.seq_ex, RS.seq_cnt, RS.turn_nx, RS.turn_cnt, RS.turn_ret, RS.turn_ex, getV_0, getV_s, set_0, set_s, ewipe_nil, ewipe_cons, truth_bl, truth_int, truth_lst, truth_non, isTy, len_str, len_lst, len_tup, leI, ltI, gtI, geI, eqI, neI, eqS, neS, ltS, leS, inSign, ninSign, isN_non, isnN_non, isN_int, isnN_int, isB, isnB, fin_ret, fin_nx, fin_ex, fin_cond, seq_cond, turn_cond, cond_ok, cond_bl, cond_f, cond_t, cond_ft, cond_or', cond_and', zip_lst, slc_lst, slc_str, ix_lst, ix_tup, ix_str, at_0, unlock_lock, unlock_same, unlock_mk, lock_nil, mkEnv_cons, mkEnv_nil_0, mkEnv_nil_s, Nat.reduceSub, Nat.sub_self, Nat.reduceAdd, Nat.add_zero, beq_self_eq_true, Bool.not_true, Bool.not_false, cond_true, cond_false, bind_name, bind_two_one, bind_two_many, asInt, List.map_cons, List.map_nil, Bool.or_true, Bool.true_or, Bool.or_false, Bool.false_or, Bool.and_true, Bool.true_and, Bool.and_false, Bool.false_and, walk_lst, walk_tup, walk_str, lkOf_d, List.map_map, Function.comp_def, reduceCtorEq, ix_scr, len_scr, int_int, int_bl, tyS_l, tyS_b, tyS_i, Option.map_some, lstOf_lst, mkL_cell0, alloc_0, is_name_eq H c this])]
    simp only [evSs, evS_set, evS_par, evS_aug, evS_exp, evS_ret, evS_retN, evS_ife, evS_raise, evS_setix, evS_setfld, evS_try, evS_cont, evS_brk, evS_pass, evE, evEs, evC, evI, evO, RE.bind_ok, RE.bind_ex, RE.blk_ok, RE.of_some, RE.of_none, binI, op_add, op_sub, RS.unlock_nx, RS.unlock_ret, RS.unlock_ex, RS.of_ok, RS.of_ex, RS.seq_nx, RS.seq_ret, RS.seq_ex, RS.seq_cnt, RS.turn_nx, RS.turn_cnt, RS.turn_ret, RS.turn_ex, getV_0, getV_s, set_0, set_s, ewipe_nil, ewipe_cons, truth_bl, truth_int, truth_lst, truth_non, isTy, len_str, len_lst, len_tup, leI, ltI, gtI, geI, eqI, neI, eqS, neS, ltS, leS, inSign, ninSign, isN_non, isnN_non, isN_int, isnN_int, isB, isnB, fin_ret, fin_nx, fin_ex, fin_cond, seq_cond, turn_cond, cond_ok, cond_bl, cond_f, cond_t, cond_ft, cond_or', cond_and', zip_lst, slc_lst, slc_str, ix_lst, ix_tup, ix_str, at_0, unlock_lock, unlock_same, unlock_mk, lock_nil, mkEnv_cons, mkEnv_nil_0, mkEnv_nil_s, Nat.reduceSub, Nat.sub_self, Nat.reduceAdd, Nat.add_zero, beq_self_eq_true, Bool.not_true, Bool.not_false, cond_true, cond_false, bind_name, bind_two_one, bind_two_many, asInt, List.map_cons, List.map_nil, Bool.or_true, Bool.true_or, Bool.or_false, Bool.false_or, Bool.and_true, Bool.true_and, Bool.and_false, Bool.false_and, walk_lst, walk_tup, walk_str, lkOf_d, List.map_map, Function.comp_def, reduceCtorEq, ix_scr, len_scr, int_int, int_bl, tyS_l, tyS_b, tyS_i, Option.map_some, lstOf_lst, mkL_cell0, alloc_0, mkL_map, all_map]
    cases e : xs.all isName with
    | false =>
      refine ok_bl ?_
      simp [areNames, e]
    | true =>
      obtain ⟨l, rfl⟩ := names_str e
      simp only [evSs, evS_set, evS_par, evS_aug, evS_exp, evS_ret, evS_retN, evS_ife, evS_raise, evS_setix, evS_setfld, evS_try, evS_cont, evS_brk, evS_pass, evE, evEs, evC, evI, evO, RE.bind_ok, RE.bind_ex, RE.blk_ok, RE.of_some, RE.of_none, binI, op_add, op_sub, RS.unlock_nx, RS.unlock_ret, RS.unlock_ex, RS.of_ok, RS.of_ex, RS.seq_nx, RS.seq_ret, RS.seq_ex, RS.seq_cnt, RS.turn_nx, RS.turn_cnt, RS.turn_ret, RS.turn_ex, getV_0, getV_s, set_0, set_s, ewipe_nil, ewipe_cons, truth_bl, truth_int, truth_lst, truth_non, isTy, len_str, len_lst, len_tup, leI, ltI, gtI, geI, eqI, neI, eqS, neS, ltS, leS, inSign, ninSign, isN_non, isnN_non, isN_int, isnN_int, isB, isnB, fin_ret, fin_nx, fin_ex, fin_cond, seq_cond, turn_cond, cond_ok, cond_bl, cond_f, cond_t, cond_ft, cond_or', cond_and', zip_lst, slc_lst, slc_str, ix_lst, ix_tup, ix_str, at_0, unlock_lock, unlock_same, unlock_mk, lock_nil, mkEnv_cons, mkEnv_nil_0, mkEnv_nil_s, Nat.reduceSub, Nat.sub_self, Nat.reduceAdd, Nat.add_zero, beq_self_eq_true, Bool.not_true, Bool.not_false, cond_true, cond_false, bind_name, bind_two_one, bind_two_many, asInt, List.map_cons, List.map_nil, Bool.or_true, Bool.true_or, Bool.or_false, Bool.false_or, Bool.and_true, Bool.true_and, Bool.and_false, Bool.false_and, walk_lst, walk_tup, walk_str, lkOf_d, List.map_map, Function.comp_def, reduceCtorEq, ix_scr, len_scr, int_int, int_bl, tyS_l, tyS_b, tyS_i, Option.map_some, lstOf_lst, mkL_cell0, alloc_0]
      rw [show D.lst (l.map .str) = strD l from rfl, is_asc_eq H]
      simp only [evSs, evS_set, evS_par, evS_aug, evS_exp, evS_ret, evS_retN, evS_ife, evS_raise, evS_setix, evS_setfld, evS_try, evS_cont, evS_brk, evS_pass, evE, evEs, evC, evI, evO, RE.bind_ok, RE.bind_ex, RE.blk_ok, RE.of_some, RE.of_none, binI, op_add, op_sub, RS.unlock_nx, RS.unlock_ret, RS.unlock_ex, RS.of_ok, RS.of_ex, RS.seq_nx, RS.seq_ret, RS.seq_ex, RS.seq_cnt, RS.turn_nx, RS.turn_cnt, RS.turn_ret, RS.turn_ex, getV_0, getV_s, set_0, set_s, ewipe_nil, ewipe_cons, truth_bl, truth_int, truth_lst, truth_non, isTy, len_str, len_lst, len_tup, leI, ltI, gtI, geI, eqI, neI, eqS, neS, ltS, leS, inSign, ninSign, isN_non, isnN_non, isN_int, isnN_int, isB, isnB, fin_ret, fin_nx, fin_ex, fin_cond, seq_cond, turn_cond, cond_ok, cond_bl, cond_f, cond_t, cond_ft, cond_or', cond_and', zip_lst, slc_lst, slc_str, ix_lst, ix_tup, ix_str, at_0, unlock_lock, unlock_same, unlock_mk, lock_nil, mkEnv_cons, mkEnv_nil_0, mkEnv_nil_s, Nat.reduceSub, Nat.sub_self, Nat.reduceAdd, Nat.add_zero, beq_self_eq_true, Bool.not_true, Bool.not_false, cond_true, cond_false, bind_name, bind_two_one, bind_two_many, asInt, List.map_cons, List.map_nil, Bool.or_true, Bool.true_or, Bool.or_false, Bool.false_or, Bool.and_true, Bool.true_and, Bool.and_false, Bool.false_and, walk_lst, walk_tup, walk_str, lkOf_d, List.map_map, Function.comp_def, reduceCtorEq, ix_scr, len_scr, int_int, int_bl, tyS_l, tyS_b, tyS_i, Option.map_some, lstOf_lst, mkL_cell0, alloc_0]
      refine ok_bl ?_
      simp only [areNames, strD, e, Bool.true_and, txt_map]
  | _ =>
    simp only [f_are_names, evSs, evS_set, evS_par, evS_aug, evS_exp, evS_ret, evS_retN, evS_ife, evS_raise, evS_setix, evS_setfld, evS_try, evS_cont, evS_brk, evS_pass, evE, evEs, evC, evI, evO, RE.bind_ok, RE.bind_ex, RE.blk_ok, RE.of_some, RE.of_none, binI, op_add, op_sub, RS.unlock_nx, RS.unlock_ret, RS.unlock_ex, RS.of_ok, RS.of_ex, RS.seq_nx, RS.seq_ret, RS.seq_ex, RS.seq_cnt, RS.turn_nx, RS.turn_cnt, RS.turn_ret, RS.turn_ex, getV_0, getV_s, set_0, set_s, ewipe_nil, ewipe_cons, truth_bl, truth_int, truth_lst, truth_non, isTy, len_str, len_lst, len_tup, leI, ltI, gtI, geI, eqI, neI, eqS, neS, ltS, leS, inSign, ninSign, isN_non, isnN_non, isN_int, isnN_int, isB, isnB, fin_ret, fin_nx, fin_ex, fin_cond, seq_cond, turn_cond, cond_ok, cond_bl, cond_f, cond_t, cond_ft, cond_or', cond_and', zip_lst, slc_lst, slc_str, ix_lst, ix_tup, ix_str, at_0, unlock_lock, unlock_same, unlock_mk, lock_nil, mkEnv_cons, mkEnv_nil_0, mkEnv_nil_s, Nat.reduceSub, Nat.sub_self, Nat.reduceAdd, Nat.add_zero, beq_self_eq_true, Bool.not_true, Bool.not_false, cond_true, cond_false, bind_name, bind_two_one, bind_two_many, asInt, List.map_cons, List.map_nil, Bool.or_true, Bool.true_or, Bool.or_false, Bool.false_or, Bool.and_true, Bool.true_and, Bool.and_false, Bool.false_and, walk_lst, walk_tup, walk_str, lkOf_d, List.map_map, Function.comp_def, reduceCtorEq, ix_scr, len_scr, int_int, int_bl, tyS_l, tyS_b, tyS_i, Option.map_some, lstOf_lst, mkL_cell0, alloc_0]
    rfl
end Z
end

section
set_option autoImplicit false
set_option linter.all false
namespace Z
open Z.Law
structure HC (P : Pg) : Prop extends HN P where
  are_graves : P.fn 296 = some f_are_graves
  are_some_of : P.fn 308 = some f_are_some_of
  is_right_kind : P.fn 567 = some f_is_right_kind
  first_wrong : P.fn 475 = some f_first_wrong
  check_dig : P.fn 366 = some f_check_dig
  most_graves : P.con 21 = .int 8
  most_kinds : P.con 14 = .int 10
  wrong_graves : P.con 36 = .int (-1)
  wrong_list : P.con 37 = .int (-2)
  flds : P.flds 1 = 1
variable {P : Pg}
theorem areNames_lst {x : D} (h : areNames x = true) : ∃ l : List S, x = strD l ∧ (l.map D.str).all isName = true ∧ asc l = true := by
  cases x with
  | lst xs =>
    simp only [areNames, Bool.and_eq_true] at h
    obtain ⟨l, rfl⟩ := names_str h.1
    rw [txt_map] at h
    exact ⟨l, rfl, h.1, h.2⟩
  | _ => cases h
def areGraves : D → Bool
  | .lst xs => areNames (.lst xs) && decide (1 ≤ xs.length) && decide (xs.length ≤ 8)
  | _ => false
theorem are_graves_eq (H : HC P) (x : D) (hx : flat1 x = true) (s : Stk) (k : Nat) : call P (k + 3) 296 [.d x] s = .ok (.d (.bl (areGraves x))) s := by
  rw [call_eq H.are_graves rfl]
  simp only [f_are_graves, evSs, evS_set, evS_par, evS_aug, evS_exp, evS_ret, evS_retN, evS_ife, evS_raise, evS_setix, evS_setfld, evS_try, evS_cont, evS_brk, evS_pass, evE, evEs, evC, evI, evO, RE.bind_ok, RE.bind_ex, RE.blk_ok, RE.of_some, RE.of_none, binI, op_add, op_sub, RS.unlock_nx, RS.unlock_ret, RS.unlock_ex, RS.of_ok, RS.of_ex, RS.seq_nx, RS.seq_ret, RS.seq_ex, RS.seq_cnt, RS.turn_nx, RS.turn_cnt, RS.turn_ret, RS.turn_ex, getV_0, getV_s, set_0, set_s, ewipe_nil, ewipe_cons, truth_bl, truth_int, truth_lst, truth_non, isTy, len_str, len_lst, len_tup, leI, ltI, gtI, geI, eqI, neI, eqS, neS, ltS, leS, inSign, ninSign, isN_non, isnN_non, isN_int, isnN_int, isB, isnB, fin_ret, fin_nx, fin_ex, fin_cond, seq_cond, turn_cond, cond_ok, cond_bl, cond_f, cond_t, cond_ft, cond_or', cond_and', zip_lst, slc_lst, slc_str, ix_lst, ix_tup, ix_str, at_0, unlock_lock, unlock_same, unlock_mk, lock_nil, mkEnv_cons, mkEnv_nil_0, mkEnv_nil_s, Nat.reduceSub, Nat.sub_self, Nat.reduceAdd, Nat.add_zero, beq_self_eq_true, Bool.not_true, Bool.not_false, cond_true, cond_false, bind_name, bind_two_one, bind_two_many, asInt, List.map_cons, List.map_nil, Bool.or_true, Bool.true_or, Bool.or_false, Bool.false_or, Bool.and_true, Bool.true_and, Bool.and_false, Bool.false_and, walk_lst, walk_tup, walk_str, lkOf_d, List.map_map, Function.comp_def, reduceCtorEq, ix_scr, len_scr, int_int, int_bl, tyS_l, tyS_b, tyS_i, Option.map_some, lstOf_lst, mkL_cell0, alloc_0]
  rw [are_names_eq H.toHN x hx]
  cases e : areNames x with
  | false =>
    simp only [evSs, evS_set, evS_par, evS_aug, evS_exp, evS_ret, evS_retN, evS_ife, evS_raise, evS_setix, evS_setfld, evS_try, evS_cont, evS_brk, evS_pass, evE, evEs, evC, evI, evO, RE.bind_ok, RE.bind_ex, RE.blk_ok, RE.of_some, RE.of_none, binI, op_add, op_sub, RS.unlock_nx, RS.unlock_ret, RS.unlock_ex, RS.of_ok, RS.of_ex, RS.seq_nx, RS.seq_ret, RS.seq_ex, RS.seq_cnt, RS.turn_nx, RS.turn_cnt, RS.turn_ret, RS.turn_ex, getV_0, getV_s, set_0, set_s, ewipe_nil, ewipe_cons, truth_bl, truth_int, truth_lst, truth_non, isTy, len_str, len_lst, len_tup, leI, ltI, gtI, geI, eqI, neI, eqS, neS, ltS, leS, inSign, ninSign, isN_non, isnN_non, isN_int, isnN_int, isB, isnB, fin_ret, fin_nx, fin_ex, fin_cond, seq_cond, turn_cond, cond_ok, cond_bl, cond_f, cond_t, cond_ft, cond_or', cond_and', zip_lst, slc_lst, slc_str, ix_lst, ix_tup, ix_str, at_0, unlock_lock, unlock_same, unlock_mk, lock_nil, mkEnv_cons, mkEnv_nil_0, mkEnv_nil_s, Nat.reduceSub, Nat.sub_self, Nat.reduceAdd, Nat.add_zero, beq_self_eq_true, Bool.not_true, Bool.not_false, cond_true, cond_false, bind_name, bind_two_one, bind_two_many, asInt, List.map_cons, List.map_nil, Bool.or_true, Bool.true_or, Bool.or_false, Bool.false_or, Bool.and_true, Bool.true_and, Bool.and_false, Bool.false_and, walk_lst, walk_tup, walk_str, lkOf_d, List.map_map, Function.comp_def, reduceCtorEq, ix_scr, len_scr, int_int, int_bl, tyS_l, tyS_b, tyS_i, Option.map_some, lstOf_lst, mkL_cell0, alloc_0]
    refine ok_bl ?_
    cases x <;> first | rfl | simp [areGraves, e]
  | true =>
    obtain ⟨l, rfl, _⟩ := areNames_lst e
    simp only [evSs, evS_set, evS_par, evS_aug, evS_exp, evS_ret, evS_retN, evS_ife, evS_raise, evS_setix, evS_setfld, evS_try, evS_cont, evS_brk, evS_pass, evE, evEs, evC, evI, evO, RE.bind_ok, RE.bind_ex, RE.blk_ok, RE.of_some, RE.of_none, binI, op_add, op_sub, RS.unlock_nx, RS.unlock_ret, RS.unlock_ex, RS.of_ok, RS.of_ex, RS.seq_nx, RS.seq_ret, RS.seq_ex, RS.seq_cnt, RS.turn_nx, RS.turn_cnt, RS.turn_ret, RS.turn_ex, getV_0, getV_s, set_0, set_s, ewipe_nil, ewipe_cons, truth_bl, truth_int, truth_lst, truth_non, isTy, len_str, len_lst, len_tup, leI, ltI, gtI, geI, eqI, neI, eqS, neS, ltS, leS, inSign, ninSign, isN_non, isnN_non, isN_int, isnN_int, isB, isnB, fin_ret, fin_nx, fin_ex, fin_cond, seq_cond, turn_cond, cond_ok, cond_bl, cond_f, cond_t, cond_ft, cond_or', cond_and', zip_lst, slc_lst, slc_str, ix_lst, ix_tup, ix_str, at_0, unlock_lock, unlock_same, unlock_mk, lock_nil, mkEnv_cons, mkEnv_nil_0, mkEnv_nil_s, Nat.reduceSub, Nat.sub_self, Nat.reduceAdd, Nat.add_zero, beq_self_eq_true, Bool.not_true, Bool.not_false, cond_true, cond_false, bind_name, bind_two_one, bind_two_many, asInt, List.map_cons, List.map_nil, Bool.or_true, Bool.true_or, Bool.or_false, Bool.false_or, Bool.and_true, Bool.true_and, Bool.and_false, Bool.false_and, walk_lst, walk_tup, walk_str, lkOf_d, List.map_map, Function.comp_def, reduceCtorEq, ix_scr, len_scr, int_int, int_bl, tyS_l, tyS_b, tyS_i, Option.map_some, lstOf_lst, mkL_cell0, alloc_0, strD, H.most_graves]
    refine ok_bl ?_
    have e' : areNames (.lst (l.map .str)) = true := e
    simp only [areGraves, e', Bool.true_and, List.length_map]
    congr 1 <;> (congr 1; apply propext; omega)
def someOf (gs : List S) : D → Bool
  | .lst xs => areNames (.lst xs) && decide (0 < xs.length) && (xs.filterMap txt).all fun z => gs.contains z
  | _ => false
theorem are_some_of_eq (H : HC P) (x : D) (hx : flat1 x = true) (gs : List S) (s : Stk) (k : Nat) : call P (k + 3) 308 [.d x, .d (strD gs)] s = .ok (.d (.bl (someOf gs x))) s := by
  rw [call_eq H.are_some_of rfl]
  simp only [f_are_some_of, evSs, evS_set, evS_par, evS_aug, evS_exp, evS_ret, evS_retN, evS_ife, evS_raise, evS_setix, evS_setfld, evS_try, evS_cont, evS_brk, evS_pass, evE, evEs, evC, evI, evO, RE.bind_ok, RE.bind_ex, RE.blk_ok, RE.of_some, RE.of_none, binI, op_add, op_sub, RS.unlock_nx, RS.unlock_ret, RS.unlock_ex, RS.of_ok, RS.of_ex, RS.seq_nx, RS.seq_ret, RS.seq_ex, RS.seq_cnt, RS.turn_nx, RS.turn_cnt, RS.turn_ret, RS.turn_ex, getV_0, getV_s, set_0, set_s, ewipe_nil, ewipe_cons, truth_bl, truth_int, truth_lst, truth_non, isTy, len_str, len_lst, len_tup, leI, ltI, gtI, geI, eqI, neI, eqS, neS, ltS, leS, inSign, ninSign, isN_non, isnN_non, isN_int, isnN_int, isB, isnB, fin_ret, fin_nx, fin_ex, fin_cond, seq_cond, turn_cond, cond_ok, cond_bl, cond_f, cond_t, cond_ft, cond_or', cond_and', zip_lst, slc_lst, slc_str, ix_lst, ix_tup, ix_str, at_0, unlock_lock, unlock_same, unlock_mk, lock_nil, mkEnv_cons, mkEnv_nil_0, mkEnv_nil_s, Nat.reduceSub, Nat.sub_self, Nat.reduceAdd, Nat.add_zero, beq_self_eq_true, Bool.not_true, Bool.not_false, cond_true, cond_false, bind_name, bind_two_one, bind_two_many, asInt, List.map_cons, List.map_nil, Bool.or_true, Bool.true_or, Bool.or_false, Bool.false_or, Bool.and_true, Bool.true_and, Bool.and_false, Bool.false_and, walk_lst, walk_tup, walk_str, lkOf_d, List.map_map, Function.comp_def, reduceCtorEq, ix_scr, len_scr, int_int, int_bl, tyS_l, tyS_b, tyS_i, Option.map_some, lstOf_lst, mkL_cell0, alloc_0]
  rw [are_names_eq H.toHN x hx]
  cases e : areNames x with
  | false =>
    simp only [evSs, evS_set, evS_par, evS_aug, evS_exp, evS_ret, evS_retN, evS_ife, evS_raise, evS_setix, evS_setfld, evS_try, evS_cont, evS_brk, evS_pass, evE, evEs, evC, evI, evO, RE.bind_ok, RE.bind_ex, RE.blk_ok, RE.of_some, RE.of_none, binI, op_add, op_sub, RS.unlock_nx, RS.unlock_ret, RS.unlock_ex, RS.of_ok, RS.of_ex, RS.seq_nx, RS.seq_ret, RS.seq_ex, RS.seq_cnt, RS.turn_nx, RS.turn_cnt, RS.turn_ret, RS.turn_ex, getV_0, getV_s, set_0, set_s, ewipe_nil, ewipe_cons, truth_bl, truth_int, truth_lst, truth_non, isTy, len_str, len_lst, len_tup, leI, ltI, gtI, geI, eqI, neI, eqS, neS, ltS, leS, inSign, ninSign, isN_non, isnN_non, isN_int, isnN_int, isB, isnB, fin_ret, fin_nx, fin_ex, fin_cond, seq_cond, turn_cond, cond_ok, cond_bl, cond_f, cond_t, cond_ft, cond_or', cond_and', zip_lst, slc_lst, slc_str, ix_lst, ix_tup, ix_str, at_0, unlock_lock, unlock_same, unlock_mk, lock_nil, mkEnv_cons, mkEnv_nil_0, mkEnv_nil_s, Nat.reduceSub, Nat.sub_self, Nat.reduceAdd, Nat.add_zero, beq_self_eq_true, Bool.not_true, Bool.not_false, cond_true, cond_false, bind_name, bind_two_one, bind_two_many, asInt, List.map_cons, List.map_nil, Bool.or_true, Bool.true_or, Bool.or_false, Bool.false_or, Bool.and_true, Bool.true_and, Bool.and_false, Bool.false_and, walk_lst, walk_tup, walk_str, lkOf_d, List.map_map, Function.comp_def, reduceCtorEq, ix_scr, len_scr, int_int, int_bl, tyS_l, tyS_b, tyS_i, Option.map_some, lstOf_lst, mkL_cell0, alloc_0]
    refine ok_bl ?_
    cases x <;> first | rfl | simp [someOf, e]
  | true =>
    obtain ⟨l, rfl, _⟩ := areNames_lst e
    simp only [evSs, evS_set, evS_par, evS_aug, evS_exp, evS_ret, evS_retN, evS_ife, evS_raise, evS_setix, evS_setfld, evS_try, evS_cont, evS_brk, evS_pass, evE, evEs, evC, evI, evO, RE.bind_ok, RE.bind_ex, RE.blk_ok, RE.of_some, RE.of_none, binI, op_add, op_sub, RS.unlock_nx, RS.unlock_ret, RS.unlock_ex, RS.of_ok, RS.of_ex, RS.seq_nx, RS.seq_ret, RS.seq_ex, RS.seq_cnt, RS.turn_nx, RS.turn_cnt, RS.turn_ret, RS.turn_ex, getV_0, getV_s, set_0, set_s, ewipe_nil, ewipe_cons, truth_bl, truth_int, truth_lst, truth_non, isTy, len_str, len_lst, len_tup, leI, ltI, gtI, geI, eqI, neI, eqS, neS, ltS, leS, inSign, ninSign, isN_non, isnN_non, isN_int, isnN_int, isB, isnB, fin_ret, fin_nx, fin_ex, fin_cond, seq_cond, turn_cond, cond_ok, cond_bl, cond_f, cond_t, cond_ft, cond_or', cond_and', zip_lst, slc_lst, slc_str, ix_lst, ix_tup, ix_str, at_0, unlock_lock, unlock_same, unlock_mk, lock_nil, mkEnv_cons, mkEnv_nil_0, mkEnv_nil_s, Nat.reduceSub, Nat.sub_self, Nat.reduceAdd, Nat.add_zero, beq_self_eq_true, Bool.not_true, Bool.not_false, cond_true, cond_false, bind_name, bind_two_one, bind_two_many, asInt, List.map_cons, List.map_nil, Bool.or_true, Bool.true_or, Bool.or_false, Bool.false_or, Bool.and_true, Bool.true_and, Bool.and_false, Bool.false_and, walk_lst, walk_tup, walk_str, lkOf_d, List.map_map, Function.comp_def, reduceCtorEq, ix_scr, len_scr, int_int, int_bl, tyS_l, tyS_b, tyS_i, Option.map_some, lstOf_lst, mkL_cell0, alloc_0, strD]
    rw [compL_map (h := fun z => Im.one (.d (.str z))) (g := fun z => .d (.bl (gs.contains z))) (fun c hc => by
      simp only [evSs, evS_set, evS_par, evS_aug, evS_exp, evS_ret, evS_retN, evS_ife, evS_raise, evS_setix, evS_setfld, evS_try, evS_cont, evS_brk, evS_pass, evE, evEs, evC, evI, evO, RE.bind_ok, RE.bind_ex, RE.blk_ok, RE.of_some, RE.of_none, binI, op_add, op_sub, RS.unlock_nx, RS.unlock_ret, RS.unlock_ex, RS.of_ok, RS.of_ex, RS.seq_nx, RS.seq_ret, RS.seq_ex, RS.seq_cnt, RS.turn_nx, RS.turn_cnt, RS.turn_ret, RS.turn_ex, getV_0, getV_s, set_0, set_s, ewipe_nil, ewipe_cons, truth_bl, truth_int, truth_lst, truth_non, isTy, len_str, len_lst, len_tup, leI, ltI, gtI, geI, eqI, neI, eqS, neS, ltS, leS, inSign, ninSign, isN_non, isnN_non, isN_int, isnN_int, isB, isnB, fin_ret, fin_nx, fin_ex, fin_cond, seq_cond, turn_cond, cond_ok, cond_bl, cond_f, cond_t, cond_ft, cond_or', cond_and', zip_lst, slc_lst, slc_str, ix_lst, ix_tup, ix_str, at_0, unlock_lock, unlock_same, unlock_mk, lock_nil, mkEnv_cons, mkEnv_nil_0, mkEnv_nil_s, Nat.reduceSub, Nat.sub_self, Nat.reduceAdd, Nat.add_zero, beq_self_eq_true, Bool.not_true, Bool.not_false, cond_true, cond_false, bind_name, bind_two_one, bind_two_many, asInt, List.map_cons, List.map_nil, Bool.or_true, Bool.true_or, Bool.or_false, Bool.false_or, Bool.and_true, Bool.true_and, Bool.and_false, Bool.false_and, walk_lst, walk_tup, walk_str, lkOf_d, List.map_map, Function.comp_def, reduceCtorEq, ix_scr, len_scr, int_int, int_bl, tyS_l, tyS_b, tyS_i, Option.map_some, lstOf_lst, mkL_cell0, alloc_0, inStrs])]
    simp only [evSs, evS_set, evS_par, evS_aug, evS_exp, evS_ret, evS_retN, evS_ife, evS_raise, evS_setix, evS_setfld, evS_try, evS_cont, evS_brk, evS_pass, evE, evEs, evC, evI, evO, RE.bind_ok, RE.bind_ex, RE.blk_ok, RE.of_some, RE.of_none, binI, op_add, op_sub, RS.unlock_nx, RS.unlock_ret, RS.unlock_ex, RS.of_ok, RS.of_ex, RS.seq_nx, RS.seq_ret, RS.seq_ex, RS.seq_cnt, RS.turn_nx, RS.turn_cnt, RS.turn_ret, RS.turn_ex, getV_0, getV_s, set_0, set_s, ewipe_nil, ewipe_cons, truth_bl, truth_int, truth_lst, truth_non, isTy, len_str, len_lst, len_tup, leI, ltI, gtI, geI, eqI, neI, eqS, neS, ltS, leS, inSign, ninSign, isN_non, isnN_non, isN_int, isnN_int, isB, isnB, fin_ret, fin_nx, fin_ex, fin_cond, seq_cond, turn_cond, cond_ok, cond_bl, cond_f, cond_t, cond_ft, cond_or', cond_and', zip_lst, slc_lst, slc_str, ix_lst, ix_tup, ix_str, at_0, unlock_lock, unlock_same, unlock_mk, lock_nil, mkEnv_cons, mkEnv_nil_0, mkEnv_nil_s, Nat.reduceSub, Nat.sub_self, Nat.reduceAdd, Nat.add_zero, beq_self_eq_true, Bool.not_true, Bool.not_false, cond_true, cond_false, bind_name, bind_two_one, bind_two_many, asInt, List.map_cons, List.map_nil, Bool.or_true, Bool.true_or, Bool.or_false, Bool.false_or, Bool.and_true, Bool.true_and, Bool.and_false, Bool.false_and, walk_lst, walk_tup, walk_str, lkOf_d, List.map_map, Function.comp_def, reduceCtorEq, ix_scr, len_scr, int_int, int_bl, tyS_l, tyS_b, tyS_i, Option.map_some, lstOf_lst, mkL_cell0, alloc_0, mkL_map, all_map]
    refine ok_bl ?_
    have e' : areNames (.lst (l.map .str)) = true := e
    simp only [someOf, e', Bool.true_and, txt_map, List.length_map]
    congr 1
    · congr 1; apply propext; omega
def rightK (gs : List S) : D → Bool
  | .tup [a, b] => isName a && someOf gs b
  | _ => false
def kindOk : D → Bool
  | .tup [a, b] => notObj a && flat1 b
  | x => notObj x
theorem is_right_kind_eq (H : HC P) (x : D) (hx : kindOk x = true) (gs : List S) (s : Stk) (k : Nat) : call P (k + 4) 567 [.d x, .d (strD gs)] s = .ok (.d (.bl (rightK gs x))) s := by
  rw [call_eq H.is_right_kind rfl]
  have hn : notObj x = true := by cases x <;> first | rfl | (cases hx; done)
  simp only [f_is_right_kind, evSs, evS_set, evS_par, evS_aug, evS_exp, evS_ret, evS_retN, evS_ife, evS_raise, evS_setix, evS_setfld, evS_try, evS_cont, evS_brk, evS_pass, evE, evEs, evC, evI, evO, RE.bind_ok, RE.bind_ex, RE.blk_ok, RE.of_some, RE.of_none, binI, op_add, op_sub, RS.unlock_nx, RS.unlock_ret, RS.unlock_ex, RS.of_ok, RS.of_ex, RS.seq_nx, RS.seq_ret, RS.seq_ex, RS.seq_cnt, RS.turn_nx, RS.turn_cnt, RS.turn_ret, RS.turn_ex, getV_0, getV_s, set_0, set_s, ewipe_nil, ewipe_cons, truth_bl, truth_int, truth_lst, truth_non, isTy, len_str, len_lst, len_tup, leI, ltI, gtI, geI, eqI, neI, eqS, neS, ltS, leS, inSign, ninSign, isN_non, isnN_non, isN_int, isnN_int, isB, isnB, fin_ret, fin_nx, fin_ex, fin_cond, seq_cond, turn_cond, cond_ok, cond_bl, cond_f, cond_t, cond_ft, cond_or', cond_and', zip_lst, slc_lst, slc_str, ix_lst, ix_tup, ix_str, at_0, unlock_lock, unlock_same, unlock_mk, lock_nil, mkEnv_cons, mkEnv_nil_0, mkEnv_nil_s, Nat.reduceSub, Nat.sub_self, Nat.reduceAdd, Nat.add_zero, beq_self_eq_true, Bool.not_true, Bool.not_false, cond_true, cond_false, bind_name, bind_two_one, bind_two_many, asInt, List.map_cons, List.map_nil, Bool.or_true, Bool.true_or, Bool.or_false, Bool.false_or, Bool.and_true, Bool.true_and, Bool.and_false, Bool.false_and, walk_lst, walk_tup, walk_str, lkOf_d, List.map_map, Function.comp_def, reduceCtorEq, ix_scr, len_scr, int_int, int_bl, tyS_l, tyS_b, tyS_i, Option.map_some, lstOf_lst, mkL_cell0, alloc_0, is_pair_eq H.toHN x hn]
  cases e : isPair x with
  | false =>
    simp only [evSs, evS_set, evS_par, evS_aug, evS_exp, evS_ret, evS_retN, evS_ife, evS_raise, evS_setix, evS_setfld, evS_try, evS_cont, evS_brk, evS_pass, evE, evEs, evC, evI, evO, RE.bind_ok, RE.bind_ex, RE.blk_ok, RE.of_some, RE.of_none, binI, op_add, op_sub, RS.unlock_nx, RS.unlock_ret, RS.unlock_ex, RS.of_ok, RS.of_ex, RS.seq_nx, RS.seq_ret, RS.seq_ex, RS.seq_cnt, RS.turn_nx, RS.turn_cnt, RS.turn_ret, RS.turn_ex, getV_0, getV_s, set_0, set_s, ewipe_nil, ewipe_cons, truth_bl, truth_int, truth_lst, truth_non, isTy, len_str, len_lst, len_tup, leI, ltI, gtI, geI, eqI, neI, eqS, neS, ltS, leS, inSign, ninSign, isN_non, isnN_non, isN_int, isnN_int, isB, isnB, fin_ret, fin_nx, fin_ex, fin_cond, seq_cond, turn_cond, cond_ok, cond_bl, cond_f, cond_t, cond_ft, cond_or', cond_and', zip_lst, slc_lst, slc_str, ix_lst, ix_tup, ix_str, at_0, unlock_lock, unlock_same, unlock_mk, lock_nil, mkEnv_cons, mkEnv_nil_0, mkEnv_nil_s, Nat.reduceSub, Nat.sub_self, Nat.reduceAdd, Nat.add_zero, beq_self_eq_true, Bool.not_true, Bool.not_false, cond_true, cond_false, bind_name, bind_two_one, bind_two_many, asInt, List.map_cons, List.map_nil, Bool.or_true, Bool.true_or, Bool.or_false, Bool.false_or, Bool.and_true, Bool.true_and, Bool.and_false, Bool.false_and, walk_lst, walk_tup, walk_str, lkOf_d, List.map_map, Function.comp_def, reduceCtorEq, ix_scr, len_scr, int_int, int_bl, tyS_l, tyS_b, tyS_i, Option.map_some, lstOf_lst, mkL_cell0, alloc_0]
    refine ok_bl ?_
    unfold isPair at e
    unfold rightK
    split at e
    · cases e
    · rename_i h
      first | rfl | (split <;> first | exact absurd rfl (h _ _) | rfl)
  | true =>
    unfold isPair at e
    split at e
    · rename_i a b
      simp only [kindOk, Bool.and_eq_true] at hx
      simp only [evSs, evS_set, evS_par, evS_aug, evS_exp, evS_ret, evS_retN, evS_ife, evS_raise, evS_setix, evS_setfld, evS_try, evS_cont, evS_brk, evS_pass, evE, evEs, evC, evI, evO, RE.bind_ok, RE.bind_ex, RE.blk_ok, RE.of_some, RE.of_none, binI, op_add, op_sub, RS.unlock_nx, RS.unlock_ret, RS.unlock_ex, RS.of_ok, RS.of_ex, RS.seq_nx, RS.seq_ret, RS.seq_ex, RS.seq_cnt, RS.turn_nx, RS.turn_cnt, RS.turn_ret, RS.turn_ex, getV_0, getV_s, set_0, set_s, ewipe_nil, ewipe_cons, truth_bl, truth_int, truth_lst, truth_non, isTy, len_str, len_lst, len_tup, leI, ltI, gtI, geI, eqI, neI, eqS, neS, ltS, leS, inSign, ninSign, isN_non, isnN_non, isN_int, isnN_int, isB, isnB, fin_ret, fin_nx, fin_ex, fin_cond, seq_cond, turn_cond, cond_ok, cond_bl, cond_f, cond_t, cond_ft, cond_or', cond_and', zip_lst, slc_lst, slc_str, ix_lst, ix_tup, ix_str, at_0, unlock_lock, unlock_same, unlock_mk, lock_nil, mkEnv_cons, mkEnv_nil_0, mkEnv_nil_s, Nat.reduceSub, Nat.sub_self, Nat.reduceAdd, Nat.add_zero, beq_self_eq_true, Bool.not_true, Bool.not_false, cond_true, cond_false, bind_name, bind_two_one, bind_two_many, asInt, List.map_cons, List.map_nil, Bool.or_true, Bool.true_or, Bool.or_false, Bool.false_or, Bool.and_true, Bool.true_and, Bool.and_false, Bool.false_and, walk_lst, walk_tup, walk_str, lkOf_d, List.map_map, Function.comp_def, reduceCtorEq, ix_scr, len_scr, int_int, int_bl, tyS_l, tyS_b, tyS_i, Option.map_some, lstOf_lst, mkL_cell0, alloc_0, is_name_eq H.toHN a hx.1]
      cases e : isName a with
      | false =>
        simp only [evSs, evS_set, evS_par, evS_aug, evS_exp, evS_ret, evS_retN, evS_ife, evS_raise, evS_setix, evS_setfld, evS_try, evS_cont, evS_brk, evS_pass, evE, evEs, evC, evI, evO, RE.bind_ok, RE.bind_ex, RE.blk_ok, RE.of_some, RE.of_none, binI, op_add, op_sub, RS.unlock_nx, RS.unlock_ret, RS.unlock_ex, RS.of_ok, RS.of_ex, RS.seq_nx, RS.seq_ret, RS.seq_ex, RS.seq_cnt, RS.turn_nx, RS.turn_cnt, RS.turn_ret, RS.turn_ex, getV_0, getV_s, set_0, set_s, ewipe_nil, ewipe_cons, truth_bl, truth_int, truth_lst, truth_non, isTy, len_str, len_lst, len_tup, leI, ltI, gtI, geI, eqI, neI, eqS, neS, ltS, leS, inSign, ninSign, isN_non, isnN_non, isN_int, isnN_int, isB, isnB, fin_ret, fin_nx, fin_ex, fin_cond, seq_cond, turn_cond, cond_ok, cond_bl, cond_f, cond_t, cond_ft, cond_or', cond_and', zip_lst, slc_lst, slc_str, ix_lst, ix_tup, ix_str, at_0, unlock_lock, unlock_same, unlock_mk, lock_nil, mkEnv_cons, mkEnv_nil_0, mkEnv_nil_s, Nat.reduceSub, Nat.sub_self, Nat.reduceAdd, Nat.add_zero, beq_self_eq_true, Bool.not_true, Bool.not_false, cond_true, cond_false, bind_name, bind_two_one, bind_two_many, asInt, List.map_cons, List.map_nil, Bool.or_true, Bool.true_or, Bool.or_false, Bool.false_or, Bool.and_true, Bool.true_and, Bool.and_false, Bool.false_and, walk_lst, walk_tup, walk_str, lkOf_d, List.map_map, Function.comp_def, reduceCtorEq, ix_scr, len_scr, int_int, int_bl, tyS_l, tyS_b, tyS_i, Option.map_some, lstOf_lst, mkL_cell0, alloc_0]
        refine ok_bl ?_
        simp [rightK, e]
      | true =>
        simp only [evSs, evS_set, evS_par, evS_aug, evS_exp, evS_ret, evS_retN, evS_ife, evS_raise, evS_setix, evS_setfld, evS_try, evS_cont, evS_brk, evS_pass, evE, evEs, evC, evI, evO, RE.bind_ok, RE.bind_ex, RE.blk_ok, RE.of_some, RE.of_none, binI, op_add, op_sub, RS.unlock_nx, RS.unlock_ret, RS.unlock_ex, RS.of_ok, RS.of_ex, RS.seq_nx, RS.seq_ret, RS.seq_ex, RS.seq_cnt, RS.turn_nx, RS.turn_cnt, RS.turn_ret, RS.turn_ex, getV_0, getV_s, set_0, set_s, ewipe_nil, ewipe_cons, truth_bl, truth_int, truth_lst, truth_non, isTy, len_str, len_lst, len_tup, leI, ltI, gtI, geI, eqI, neI, eqS, neS, ltS, leS, inSign, ninSign, isN_non, isnN_non, isN_int, isnN_int, isB, isnB, fin_ret, fin_nx, fin_ex, fin_cond, seq_cond, turn_cond, cond_ok, cond_bl, cond_f, cond_t, cond_ft, cond_or', cond_and', zip_lst, slc_lst, slc_str, ix_lst, ix_tup, ix_str, at_0, unlock_lock, unlock_same, unlock_mk, lock_nil, mkEnv_cons, mkEnv_nil_0, mkEnv_nil_s, Nat.reduceSub, Nat.sub_self, Nat.reduceAdd, Nat.add_zero, beq_self_eq_true, Bool.not_true, Bool.not_false, cond_true, cond_false, bind_name, bind_two_one, bind_two_many, asInt, List.map_cons, List.map_nil, Bool.or_true, Bool.true_or, Bool.or_false, Bool.false_or, Bool.and_true, Bool.true_and, Bool.and_false, Bool.false_and, walk_lst, walk_tup, walk_str, lkOf_d, List.map_map, Function.comp_def, reduceCtorEq, ix_scr, len_scr, int_int, int_bl, tyS_l, tyS_b, tyS_i, Option.map_some, lstOf_lst, mkL_cell0, alloc_0, are_some_of_eq H b hx.2]
        refine ok_bl ?_
        simp [rightK, e]
    · cases e
end Z
end

section
set_option autoImplicit false
set_option linter.all false
namespace Z
open Z.Law
variable {P : Pg}
def knm : D → S
  | .tup (.str z :: _) => z
  | _ => []
theorem rightK_tup {gs : List S} {x : D} (h : rightK gs x = true) : ∃ z b, x = .tup [.str z, b] ∧ nameS z = true ∧ someOf gs b = true := by
  unfold rightK at h
  split at h
  · rename_i a b
    rw [Bool.and_eq_true] at h
    cases a with
    | str z => exact ⟨z, b, rfl, h.1, h.2⟩
    | _ => cases h.1
  · cases h
/-- a kind's place is wrong -/
def wrongB (gs : List S) (ks : List D) (p : D × Nat) : Bool := !rightK gs p.1 || (decide (0 < p.2) && !decide (knm (ks.getD (p.2 - 1) .non) < knm p.1))
def firstWrong (gs : List S) (ks : List D) : Option Nat := ks.zipIdx.findSome? fun p => if wrongB gs ks p then some p.2 else none
def wrongD : Option Nat → D
  | some i => .int i
  | none => .non
theorem findSome_map {α β γ : Type} (f : α → Option β) (g : β → γ) (l : List α) : (l.findSome? fun x => (f x).map g) = (l.findSome? f).map g := by
  induction l with
  | nil => rfl
  | cons x l ih =>
    rw [List.findSome?_cons, List.findSome?_cons]
    cases f x with
    | none => exact ih
    | some y => rfl
theorem first_wrong_eq (H : HC P) (ks : List D) (hk : ∀ x ∈ ks, kindOk x = true) (gs : List S) (s : Stk) (k : Nat) : call P (k + 5) 475 [.d (strD gs), .d (.lst ks)] s = .ok (.d (wrongD (firstWrong gs ks))) s := by
  rw [call_eq H.first_wrong rfl]
  simp only [f_first_wrong, evSs, evS_set, evS_par, evS_aug, evS_exp, evS_ret, evS_retN, evS_ife, evS_raise, evS_setix, evS_setfld, evS_try, evS_cont, evS_brk, evS_pass, evE, evEs, evC, evI, evO, RE.bind_ok, RE.bind_ex, RE.blk_ok, RE.of_some, RE.of_none, binI, op_add, op_sub, RS.unlock_nx, RS.unlock_ret, RS.unlock_ex, RS.of_ok, RS.of_ex, RS.seq_nx, RS.seq_ret, RS.seq_ex, RS.seq_cnt, RS.turn_nx, RS.turn_cnt, RS.turn_ret, RS.turn_ex, getV_0, getV_s, set_0, set_s, ewipe_nil, ewipe_cons, truth_bl, truth_int, truth_lst, truth_non, isTy, len_str, len_lst, len_tup, leI, ltI, gtI, geI, eqI, neI, eqS, neS, ltS, leS, inSign, ninSign, isN_non, isnN_non, isN_int, isnN_int, isB, isnB, fin_ret, fin_nx, fin_ex, fin_cond, seq_cond, turn_cond, cond_ok, cond_bl, cond_f, cond_t, cond_ft, cond_or', cond_and', zip_lst, slc_lst, slc_str, ix_lst, ix_tup, ix_str, at_0, unlock_lock, unlock_same, unlock_mk, lock_nil, mkEnv_cons, mkEnv_nil_0, mkEnv_nil_s, Nat.reduceSub, Nat.sub_self, Nat.reduceAdd, Nat.add_zero, beq_self_eq_true, Bool.not_true, Bool.not_false, cond_true, cond_false, bind_name, bind_two_one, bind_two_many, asInt, List.map_cons, List.map_nil, Bool.or_true, Bool.true_or, Bool.or_false, Bool.false_or, Bool.and_true, Bool.true_and, Bool.and_false, Bool.false_and, walk_lst, walk_tup, walk_str, lkOf_d, List.map_map, Function.comp_def, reduceCtorEq, ix_scr, len_scr, int_int, int_bl, tyS_l, tyS_b, tyS_i, Option.map_some, lstOf_lst, mkL_cell0, alloc_0]
  have key := forL_find (F := fun x ρ s => RS.of (RE.of (bindT (.tup [.name 2, .name 3]) x ρ) s) fun ρ1 s => evSs P (call P (k + 4)) (match l_first_wrong_0 with | .for _ _ b => b | _ => []) ρ1 s)
    (h := fun p : D × Nat => Im.many [.d (.int p.2), .d p.1]) (Inv := fun ρ => ∃ a b, ρ = [some (.d (strD gs)), some (.d (.lst ks)), a, b])
    (g := fun p => (if wrongB gs ks p then some p.2 else none : Option Nat).map fun (i : Nat) => RS.ret (.d (.int (i : Int))) ⟨[] :: s.rs, s.lk⟩) (s := ⟨[] :: s.rs, s.lk⟩) ks.zipIdx [] [some (.d (strD gs)), some (.d (.lst ks)), none, none] ⟨none, none, rfl⟩ (fun y hy => by cases hy) (by
      rintro ρ ⟨a, b, rfl⟩ p ⟨x, i⟩ q eq hp
      obtain ⟨rfl, hx, hpre⟩ := zipIdx_at (show ks.zipIdx 0 = p ++ (x, i) :: q from eq)
      have hx' := hk x (List.mem_of_getElem? hx)
      simp only [l_first_wrong_0, evSs, evS_set, evS_par, evS_aug, evS_exp, evS_ret, evS_retN, evS_ife, evS_raise, evS_setix, evS_setfld, evS_try, evS_cont, evS_brk, evS_pass, evE, evEs, evC, evI, evO, RE.bind_ok, RE.bind_ex, RE.blk_ok, RE.of_some, RE.of_none, binI, op_add, op_sub, RS.unlock_nx, RS.unlock_ret, RS.unlock_ex, RS.of_ok, RS.of_ex, RS.seq_nx, RS.seq_ret, RS.seq_ex, RS.seq_cnt, RS.turn_nx, RS.turn_cnt, RS.turn_ret, RS.turn_ex, getV_0, getV_s, set_0, set_s, ewipe_nil, ewipe_cons, truth_bl, truth_int, truth_lst, truth_non, isTy, len_str, len_lst, len_tup, leI, ltI, gtI, geI, eqI, neI, eqS, neS, ltS, leS, inSign, ninSign, isN_non, isnN_non, isN_int, isnN_int, isB, isnB, fin_ret, fin_nx, fin_ex, fin_cond, seq_cond, turn_cond, cond_ok, cond_bl, cond_f, cond_t, cond_ft, cond_or', cond_and', zip_lst, slc_lst, slc_str, ix_lst, ix_tup, ix_str, at_0, unlock_lock, unlock_same, unlock_mk, lock_nil, mkEnv_cons, mkEnv_nil_0, mkEnv_nil_s, Nat.reduceSub, Nat.sub_self, Nat.reduceAdd, Nat.add_zero, beq_self_eq_true, Bool.not_true, Bool.not_false, cond_true, cond_false, bind_name, bind_two_one, bind_two_many, asInt, List.map_cons, List.map_nil, Bool.or_true, Bool.true_or, Bool.or_false, Bool.false_or, Bool.and_true, Bool.true_and, Bool.and_false, Bool.false_and, walk_lst, walk_tup, walk_str, lkOf_d, List.map_map, Function.comp_def, reduceCtorEq, ix_scr, len_scr, int_int, int_bl, tyS_l, tyS_b, tyS_i, Option.map_some, lstOf_lst, mkL_cell0, alloc_0, is_right_kind_eq H x hx']
      cases e1 : rightK gs x with
      | false =>
        simp only [evSs, evS_set, evS_par, evS_aug, evS_exp, evS_ret, evS_retN, evS_ife, evS_raise, evS_setix, evS_setfld, evS_try, evS_cont, evS_brk, evS_pass, evE, evEs, evC, evI, evO, RE.bind_ok, RE.bind_ex, RE.blk_ok, RE.of_some, RE.of_none, binI, op_add, op_sub, RS.unlock_nx, RS.unlock_ret, RS.unlock_ex, RS.of_ok, RS.of_ex, RS.seq_nx, RS.seq_ret, RS.seq_ex, RS.seq_cnt, RS.turn_nx, RS.turn_cnt, RS.turn_ret, RS.turn_ex, getV_0, getV_s, set_0, set_s, ewipe_nil, ewipe_cons, truth_bl, truth_int, truth_lst, truth_non, isTy, len_str, len_lst, len_tup, leI, ltI, gtI, geI, eqI, neI, eqS, neS, ltS, leS, inSign, ninSign, isN_non, isnN_non, isN_int, isnN_int, isB, isnB, fin_ret, fin_nx, fin_ex, fin_cond, seq_cond, turn_cond, cond_ok, cond_bl, cond_f, cond_t, cond_ft, cond_or', cond_and', zip_lst, slc_lst, slc_str, ix_lst, ix_tup, ix_str, at_0, unlock_lock, unlock_same, unlock_mk, lock_nil, mkEnv_cons, mkEnv_nil_0, mkEnv_nil_s, Nat.reduceSub, Nat.sub_self, Nat.reduceAdd, Nat.add_zero, beq_self_eq_true, Bool.not_true, Bool.not_false, cond_true, cond_false, bind_name, bind_two_one, bind_two_many, asInt, List.map_cons, List.map_nil, Bool.or_true, Bool.true_or, Bool.or_false, Bool.false_or, Bool.and_true, Bool.true_and, Bool.and_false, Bool.false_and, walk_lst, walk_tup, walk_str, lkOf_d, List.map_map, Function.comp_def, reduceCtorEq, ix_scr, len_scr, int_int, int_bl, tyS_l, tyS_b, tyS_i, Option.map_some, lstOf_lst, mkL_cell0, alloc_0, wrongB, e1, if_true, Option.map_some, Nat.zero_add]
        first | exact ⟨rfl, fun k => rfl⟩ | exact ⟨trivial, fun _ => trivial⟩
      | true =>
        obtain ⟨z, b', rfl, hz, hb⟩ := rightK_tup e1
        simp only [evSs, evS_set, evS_par, evS_aug, evS_exp, evS_ret, evS_retN, evS_ife, evS_raise, evS_setix, evS_setfld, evS_try, evS_cont, evS_brk, evS_pass, evE, evEs, evC, evI, evO, RE.bind_ok, RE.bind_ex, RE.blk_ok, RE.of_some, RE.of_none, binI, op_add, op_sub, RS.unlock_nx, RS.unlock_ret, RS.unlock_ex, RS.of_ok, RS.of_ex, RS.seq_nx, RS.seq_ret, RS.seq_ex, RS.seq_cnt, RS.turn_nx, RS.turn_cnt, RS.turn_ret, RS.turn_ex, getV_0, getV_s, set_0, set_s, ewipe_nil, ewipe_cons, truth_bl, truth_int, truth_lst, truth_non, isTy, len_str, len_lst, len_tup, leI, ltI, gtI, geI, eqI, neI, eqS, neS, ltS, leS, inSign, ninSign, isN_non, isnN_non, isN_int, isnN_int, isB, isnB, fin_ret, fin_nx, fin_ex, fin_cond, seq_cond, turn_cond, cond_ok, cond_bl, cond_f, cond_t, cond_ft, cond_or', cond_and', zip_lst, slc_lst, slc_str, ix_lst, ix_tup, ix_str, at_0, unlock_lock, unlock_same, unlock_mk, lock_nil, mkEnv_cons, mkEnv_nil_0, mkEnv_nil_s, Nat.reduceSub, Nat.sub_self, Nat.reduceAdd, Nat.add_zero, beq_self_eq_true, Bool.not_true, Bool.not_false, cond_true, cond_false, bind_name, bind_two_one, bind_two_many, asInt, List.map_cons, List.map_nil, Bool.or_true, Bool.true_or, Bool.or_false, Bool.false_or, Bool.and_true, Bool.true_and, Bool.and_false, Bool.false_and, walk_lst, walk_tup, walk_str, lkOf_d, List.map_map, Function.comp_def, reduceCtorEq, ix_scr, len_scr, int_int, int_bl, tyS_l, tyS_b, tyS_i, Option.map_some, lstOf_lst, mkL_cell0, alloc_0, Nat.zero_add]
        cases e2 : p.length with
        | zero =>
          have : decide ((0 : Int) < ((0 : Nat) : Int)) = false := rfl
          simp only [evSs, evS_set, evS_par, evS_aug, evS_exp, evS_ret, evS_retN, evS_ife, evS_raise, evS_setix, evS_setfld, evS_try, evS_cont, evS_brk, evS_pass, evE, evEs, evC, evI, evO, RE.bind_ok, RE.bind_ex, RE.blk_ok, RE.of_some, RE.of_none, binI, op_add, op_sub, RS.unlock_nx, RS.unlock_ret, RS.unlock_ex, RS.of_ok, RS.of_ex, RS.seq_nx, RS.seq_ret, RS.seq_ex, RS.seq_cnt, RS.turn_nx, RS.turn_cnt, RS.turn_ret, RS.turn_ex, getV_0, getV_s, set_0, set_s, ewipe_nil, ewipe_cons, truth_bl, truth_int, truth_lst, truth_non, isTy, len_str, len_lst, len_tup, leI, ltI, gtI, geI, eqI, neI, eqS, neS, ltS, leS, inSign, ninSign, isN_non, isnN_non, isN_int, isnN_int, isB, isnB, fin_ret, fin_nx, fin_ex, fin_cond, seq_cond, turn_cond, cond_ok, cond_bl, cond_f, cond_t, cond_ft, cond_or', cond_and', zip_lst, slc_lst, slc_str, ix_lst, ix_tup, ix_str, at_0, unlock_lock, unlock_same, unlock_mk, lock_nil, mkEnv_cons, mkEnv_nil_0, mkEnv_nil_s, Nat.reduceSub, Nat.sub_self, Nat.reduceAdd, Nat.add_zero, beq_self_eq_true, Bool.not_true, Bool.not_false, cond_true, cond_false, bind_name, bind_two_one, bind_two_many, asInt, List.map_cons, List.map_nil, Bool.or_true, Bool.true_or, Bool.or_false, Bool.false_or, Bool.and_true, Bool.true_and, Bool.and_false, Bool.false_and, walk_lst, walk_tup, walk_str, lkOf_d, List.map_map, Function.comp_def, reduceCtorEq, ix_scr, len_scr, int_int, int_bl, tyS_l, tyS_b, tyS_i, Option.map_some, lstOf_lst, mkL_cell0, alloc_0, this, wrongB, e1]
          exact ⟨_, ⟨_, _, rfl⟩, .inl rfl⟩
        | succ j =>
          obtain ⟨y, hy, hy2⟩ := hpre j (by omega)
          have hg := hp _ hy
          have e3 : rightK gs y = true := by
            cases e3 : rightK gs y with
            | true => rfl
            | false => simp [wrongB, e3] at hg
          obtain ⟨z', b'', rfl, _, _⟩ := rightK_tup e3
          have h1 : decide ((0 : Int) < ((j + 1 : Nat) : Int)) = true := by simp
          have h2 : ((j + 1 : Nat) : Int) - 1 = (j : Int) := by omega
          have h3 : atI (ks.map U.d) (j : Int) = some (.d (.tup [.str z', b''])) := by rw [atI_nat, List.getElem?_map, hy2]; rfl
          simp only [evSs, evS_set, evS_par, evS_aug, evS_exp, evS_ret, evS_retN, evS_ife, evS_raise, evS_setix, evS_setfld, evS_try, evS_cont, evS_brk, evS_pass, evE, evEs, evC, evI, evO, RE.bind_ok, RE.bind_ex, RE.blk_ok, RE.of_some, RE.of_none, binI, op_add, op_sub, RS.unlock_nx, RS.unlock_ret, RS.unlock_ex, RS.of_ok, RS.of_ex, RS.seq_nx, RS.seq_ret, RS.seq_ex, RS.seq_cnt, RS.turn_nx, RS.turn_cnt, RS.turn_ret, RS.turn_ex, getV_0, getV_s, set_0, set_s, ewipe_nil, ewipe_cons, truth_bl, truth_int, truth_lst, truth_non, isTy, len_str, len_lst, len_tup, leI, ltI, gtI, geI, eqI, neI, eqS, neS, ltS, leS, inSign, ninSign, isN_non, isnN_non, isN_int, isnN_int, isB, isnB, fin_ret, fin_nx, fin_ex, fin_cond, seq_cond, turn_cond, cond_ok, cond_bl, cond_f, cond_t, cond_ft, cond_or', cond_and', zip_lst, slc_lst, slc_str, ix_lst, ix_tup, ix_str, at_0, unlock_lock, unlock_same, unlock_mk, lock_nil, mkEnv_cons, mkEnv_nil_0, mkEnv_nil_s, Nat.reduceSub, Nat.sub_self, Nat.reduceAdd, Nat.add_zero, beq_self_eq_true, Bool.not_true, Bool.not_false, cond_true, cond_false, bind_name, bind_two_one, bind_two_many, asInt, List.map_cons, List.map_nil, Bool.or_true, Bool.true_or, Bool.or_false, Bool.false_or, Bool.and_true, Bool.true_and, Bool.and_false, Bool.false_and, walk_lst, walk_tup, walk_str, lkOf_d, List.map_map, Function.comp_def, reduceCtorEq, ix_scr, len_scr, int_int, int_bl, tyS_l, tyS_b, tyS_i, Option.map_some, lstOf_lst, mkL_cell0, alloc_0, h1, h2, h3]
          have e4 : ks.getD (j + 1 - 1) .non = .tup [.str z', b''] := by rw [Nat.add_sub_cancel, List.getD_eq_getElem?_getD, hy2]; rfl
          simp only [wrongB, e1, e4, knm, Bool.not_true, Bool.false_or]
          have h4 : decide (0 < j + 1) = true := by simp
          rw [h4, Bool.true_and]
          cases decide (z' < z) with
          | true => exact ⟨_, ⟨_, _, rfl⟩, .inl rfl⟩
          | false => exact ⟨rfl, fun k => rfl⟩)
  have hl : evS P (call P (k + 4)) l_first_wrong_0 [some (.d (strD gs)), some (.d (.lst ks)), none, none] ⟨[] :: s.rs, s.lk⟩ = (forL (fun x ρ s => RS.of (RE.of (bindT (.tup [.name 2, .name 3]) x ρ) s) fun ρ1 s => evSs P (call P (k + 4)) (match l_first_wrong_0 with | .for _ _ b => b | _ => []) ρ1 s) (ks.zipIdx.map fun p : D × Nat => Im.many [.d (.int p.2), .d p.1]) [some (.d (strD gs)), some (.d (.lst ks)), none, none] ⟨[] :: s.rs, s.lk⟩).unlock s.lk := by
    rw [← enumI_map]; rfl
  rw [findSome_map] at key
  rw [hl]
  cases e : firstWrong gs ks with
  | none =>
    have e' : (ks.zipIdx.findSome? fun p => if wrongB gs ks p then some p.2 else none) = none := e
    rw [e'] at key
    obtain ⟨ρ', ⟨a, b, rfl⟩, e2⟩ := key
    rw [e2]
    rfl
  | some i =>
    have e' : (ks.zipIdx.findSome? fun p => if wrongB gs ks p then some p.2 else none) = some i := e
    rw [e'] at key
    simp only [Option.map_some] at key
    rw [key]
    rfl
/-- what checking a dig gives -/
def refusal (g k : D) : Option Int :=
  if areGraves g then
    match g, k with
    | .lst gl, .lst ks => if 10 < ks.length then some (-2) else (firstWrong (gl.filterMap txt) ks).map Int.ofNat
    | _, _ => some (-2)
  else some (-1)
def kindsOk : D → Bool
  | .lst ks => ks.all kindOk
  | x => notObj x
theorem check_dig_eq (H : HC P) (g k : D) (hg : flat1 g = true) (hk : kindsOk k = true) (s : Stk) (n : Nat) : call P (n + 6) 366 [.d g, .d k] s = match refusal g k with | none => .ok (.d .non) s | some i => .ex 1 [.int i] s := by
  rw [call_eq H.check_dig rfl]
  simp only [f_check_dig, evSs, evS_set, evS_par, evS_aug, evS_exp, evS_ret, evS_retN, evS_ife, evS_raise, evS_setix, evS_setfld, evS_try, evS_cont, evS_brk, evS_pass, evE, evEs, evC, evI, evO, RE.bind_ok, RE.bind_ex, RE.blk_ok, RE.of_some, RE.of_none, binI, op_add, op_sub, RS.unlock_nx, RS.unlock_ret, RS.unlock_ex, RS.of_ok, RS.of_ex, RS.seq_nx, RS.seq_ret, RS.seq_ex, RS.seq_cnt, RS.turn_nx, RS.turn_cnt, RS.turn_ret, RS.turn_ex, getV_0, getV_s, set_0, set_s, ewipe_nil, ewipe_cons, truth_bl, truth_int, truth_lst, truth_non, isTy, len_str, len_lst, len_tup, leI, ltI, gtI, geI, eqI, neI, eqS, neS, ltS, leS, inSign, ninSign, isN_non, isnN_non, isN_int, isnN_int, isB, isnB, fin_ret, fin_nx, fin_ex, fin_cond, seq_cond, turn_cond, cond_ok, cond_bl, cond_f, cond_t, cond_ft, cond_or', cond_and', zip_lst, slc_lst, slc_str, ix_lst, ix_tup, ix_str, at_0, unlock_lock, unlock_same, unlock_mk, lock_nil, mkEnv_cons, mkEnv_nil_0, mkEnv_nil_s, Nat.reduceSub, Nat.sub_self, Nat.reduceAdd, Nat.add_zero, beq_self_eq_true, Bool.not_true, Bool.not_false, cond_true, cond_false, bind_name, bind_two_one, bind_two_many, asInt, List.map_cons, List.map_nil, Bool.or_true, Bool.true_or, Bool.or_false, Bool.false_or, Bool.and_true, Bool.true_and, Bool.and_false, Bool.false_and, walk_lst, walk_tup, walk_str, lkOf_d, List.map_map, Function.comp_def, reduceCtorEq, ix_scr, len_scr, int_int, int_bl, tyS_l, tyS_b, tyS_i, Option.map_some, lstOf_lst, mkL_cell0, alloc_0, are_graves_eq H g hg, H.wrong_graves, H.wrong_list, H.most_kinds, H.flds]
  cases e : areGraves g with
  | false =>
    simp only [evSs, evS_set, evS_par, evS_aug, evS_exp, evS_ret, evS_retN, evS_ife, evS_raise, evS_setix, evS_setfld, evS_try, evS_cont, evS_brk, evS_pass, evE, evEs, evC, evI, evO, RE.bind_ok, RE.bind_ex, RE.blk_ok, RE.of_some, RE.of_none, binI, op_add, op_sub, RS.unlock_nx, RS.unlock_ret, RS.unlock_ex, RS.of_ok, RS.of_ex, RS.seq_nx, RS.seq_ret, RS.seq_ex, RS.seq_cnt, RS.turn_nx, RS.turn_cnt, RS.turn_ret, RS.turn_ex, getV_0, getV_s, set_0, set_s, ewipe_nil, ewipe_cons, truth_bl, truth_int, truth_lst, truth_non, isTy, len_str, len_lst, len_tup, leI, ltI, gtI, geI, eqI, neI, eqS, neS, ltS, leS, inSign, ninSign, isN_non, isnN_non, isN_int, isnN_int, isB, isnB, fin_ret, fin_nx, fin_ex, fin_cond, seq_cond, turn_cond, cond_ok, cond_bl, cond_f, cond_t, cond_ft, cond_or', cond_and', zip_lst, slc_lst, slc_str, ix_lst, ix_tup, ix_str, at_0, unlock_lock, unlock_same, unlock_mk, lock_nil, mkEnv_cons, mkEnv_nil_0, mkEnv_nil_s, Nat.reduceSub, Nat.sub_self, Nat.reduceAdd, Nat.add_zero, beq_self_eq_true, Bool.not_true, Bool.not_false, cond_true, cond_false, bind_name, bind_two_one, bind_two_many, asInt, List.map_cons, List.map_nil, Bool.or_true, Bool.true_or, Bool.or_false, Bool.false_or, Bool.and_true, Bool.true_and, Bool.and_false, Bool.false_and, walk_lst, walk_tup, walk_str, lkOf_d, List.map_map, Function.comp_def, reduceCtorEq, ix_scr, len_scr, int_int, int_bl, tyS_l, tyS_b, tyS_i, Option.map_some, lstOf_lst, mkL_cell0, alloc_0, refusal, e, pus, U.pu]
    rfl
  | true =>
    have eg : ∃ l, g = strD l := by
      cases g with
      | lst xs =>
        simp only [areGraves, Bool.and_eq_true] at e
        obtain ⟨l, h, _⟩ := areNames_lst e.1.1
        exact ⟨l, h⟩
      | _ => cases e
    obtain ⟨l, rfl⟩ := eg
    have e' : areGraves (.lst (l.map .str)) = true := e
    cases k with
    | obj => cases hk
    | scr => cases hk
    | lst ks =>
      simp only [evSs, evS_set, evS_par, evS_aug, evS_exp, evS_ret, evS_retN, evS_ife, evS_raise, evS_setix, evS_setfld, evS_try, evS_cont, evS_brk, evS_pass, evE, evEs, evC, evI, evO, RE.bind_ok, RE.bind_ex, RE.blk_ok, RE.of_some, RE.of_none, binI, op_add, op_sub, RS.unlock_nx, RS.unlock_ret, RS.unlock_ex, RS.of_ok, RS.of_ex, RS.seq_nx, RS.seq_ret, RS.seq_ex, RS.seq_cnt, RS.turn_nx, RS.turn_cnt, RS.turn_ret, RS.turn_ex, getV_0, getV_s, set_0, set_s, ewipe_nil, ewipe_cons, truth_bl, truth_int, truth_lst, truth_non, isTy, len_str, len_lst, len_tup, leI, ltI, gtI, geI, eqI, neI, eqS, neS, ltS, leS, inSign, ninSign, isN_non, isnN_non, isN_int, isnN_int, isB, isnB, fin_ret, fin_nx, fin_ex, fin_cond, seq_cond, turn_cond, cond_ok, cond_bl, cond_f, cond_t, cond_ft, cond_or', cond_and', zip_lst, slc_lst, slc_str, ix_lst, ix_tup, ix_str, at_0, unlock_lock, unlock_same, unlock_mk, lock_nil, mkEnv_cons, mkEnv_nil_0, mkEnv_nil_s, Nat.reduceSub, Nat.sub_self, Nat.reduceAdd, Nat.add_zero, beq_self_eq_true, Bool.not_true, Bool.not_false, cond_true, cond_false, bind_name, bind_two_one, bind_two_many, asInt, List.map_cons, List.map_nil, Bool.or_true, Bool.true_or, Bool.or_false, Bool.false_or, Bool.and_true, Bool.true_and, Bool.and_false, Bool.false_and, walk_lst, walk_tup, walk_str, lkOf_d, List.map_map, Function.comp_def, reduceCtorEq, ix_scr, len_scr, int_int, int_bl, tyS_l, tyS_b, tyS_i, Option.map_some, lstOf_lst, mkL_cell0, alloc_0]
      by_cases h : 10 < ks.length
      · have h1 : decide ((10 : Int) < (ks.length : Int)) = true := by simp; omega
        simp only [h1, evSs, evS_set, evS_par, evS_aug, evS_exp, evS_ret, evS_retN, evS_ife, evS_raise, evS_setix, evS_setfld, evS_try, evS_cont, evS_brk, evS_pass, evE, evEs, evC, evI, evO, RE.bind_ok, RE.bind_ex, RE.blk_ok, RE.of_some, RE.of_none, binI, op_add, op_sub, RS.unlock_nx, RS.unlock_ret, RS.unlock_ex, RS.of_ok, RS.of_ex, RS.seq_nx, RS.seq_ret, RS.seq_ex, RS.seq_cnt, RS.turn_nx, RS.turn_cnt, RS.turn_ret, RS.turn_ex, getV_0, getV_s, set_0, set_s, ewipe_nil, ewipe_cons, truth_bl, truth_int, truth_lst, truth_non, isTy, len_str, len_lst, len_tup, leI, ltI, gtI, geI, eqI, neI, eqS, neS, ltS, leS, inSign, ninSign, isN_non, isnN_non, isN_int, isnN_int, isB, isnB, fin_ret, fin_nx, fin_ex, fin_cond, seq_cond, turn_cond, cond_ok, cond_bl, cond_f, cond_t, cond_ft, cond_or', cond_and', zip_lst, slc_lst, slc_str, ix_lst, ix_tup, ix_str, at_0, unlock_lock, unlock_same, unlock_mk, lock_nil, mkEnv_cons, mkEnv_nil_0, mkEnv_nil_s, Nat.reduceSub, Nat.sub_self, Nat.reduceAdd, Nat.add_zero, beq_self_eq_true, Bool.not_true, Bool.not_false, cond_true, cond_false, bind_name, bind_two_one, bind_two_many, asInt, List.map_cons, List.map_nil, Bool.or_true, Bool.true_or, Bool.or_false, Bool.false_or, Bool.and_true, Bool.true_and, Bool.and_false, Bool.false_and, walk_lst, walk_tup, walk_str, lkOf_d, List.map_map, Function.comp_def, reduceCtorEq, ix_scr, len_scr, int_int, int_bl, tyS_l, tyS_b, tyS_i, Option.map_some, lstOf_lst, mkL_cell0, alloc_0, pus, U.pu]
        simp only [refusal, e', strD, h, if_true]
        rfl
      · have h1 : decide ((10 : Int) < (ks.length : Int)) = false := by simp; omega
        simp only [h1, evSs, evS_set, evS_par, evS_aug, evS_exp, evS_ret, evS_retN, evS_ife, evS_raise, evS_setix, evS_setfld, evS_try, evS_cont, evS_brk, evS_pass, evE, evEs, evC, evI, evO, RE.bind_ok, RE.bind_ex, RE.blk_ok, RE.of_some, RE.of_none, binI, op_add, op_sub, RS.unlock_nx, RS.unlock_ret, RS.unlock_ex, RS.of_ok, RS.of_ex, RS.seq_nx, RS.seq_ret, RS.seq_ex, RS.seq_cnt, RS.turn_nx, RS.turn_cnt, RS.turn_ret, RS.turn_ex, getV_0, getV_s, set_0, set_s, ewipe_nil, ewipe_cons, truth_bl, truth_int, truth_lst, truth_non, isTy, len_str, len_lst, len_tup, leI, ltI, gtI, geI, eqI, neI, eqS, neS, ltS, leS, inSign, ninSign, isN_non, isnN_non, isN_int, isnN_int, isB, isnB, fin_ret, fin_nx, fin_ex, fin_cond, seq_cond, turn_cond, cond_ok, cond_bl, cond_f, cond_t, cond_ft, cond_or', cond_and', zip_lst, slc_lst, slc_str, ix_lst, ix_tup, ix_str, at_0, unlock_lock, unlock_same, unlock_mk, lock_nil, mkEnv_cons, mkEnv_nil_0, mkEnv_nil_s, Nat.reduceSub, Nat.sub_self, Nat.reduceAdd, Nat.add_zero, beq_self_eq_true, Bool.not_true, Bool.not_false, cond_true, cond_false, bind_name, bind_two_one, bind_two_many, asInt, List.map_cons, List.map_nil, Bool.or_true, Bool.true_or, Bool.or_false, Bool.false_or, Bool.and_true, Bool.true_and, Bool.and_false, Bool.false_and, walk_lst, walk_tup, walk_str, lkOf_d, List.map_map, Function.comp_def, reduceCtorEq, ix_scr, len_scr, int_int, int_bl, tyS_l, tyS_b, tyS_i, Option.map_some, lstOf_lst, mkL_cell0, alloc_0, first_wrong_eq H ks (fun x hx => List.all_eq_true.mp hk x hx)]
        simp only [refusal, e', strD, h, if_true, if_false, txt_map]
        cases firstWrong l ks with
        | none => simp only [wrongD, evSs, evS_set, evS_par, evS_aug, evS_exp, evS_ret, evS_retN, evS_ife, evS_raise, evS_setix, evS_setfld, evS_try, evS_cont, evS_brk, evS_pass, evE, evEs, evC, evI, evO, RE.bind_ok, RE.bind_ex, RE.blk_ok, RE.of_some, RE.of_none, binI, op_add, op_sub, RS.unlock_nx, RS.unlock_ret, RS.unlock_ex, RS.of_ok, RS.of_ex, RS.seq_nx, RS.seq_ret, RS.seq_ex, RS.seq_cnt, RS.turn_nx, RS.turn_cnt, RS.turn_ret, RS.turn_ex, getV_0, getV_s, set_0, set_s, ewipe_nil, ewipe_cons, truth_bl, truth_int, truth_lst, truth_non, isTy, len_str, len_lst, len_tup, leI, ltI, gtI, geI, eqI, neI, eqS, neS, ltS, leS, inSign, ninSign, isN_non, isnN_non, isN_int, isnN_int, isB, isnB, fin_ret, fin_nx, fin_ex, fin_cond, seq_cond, turn_cond, cond_ok, cond_bl, cond_f, cond_t, cond_ft, cond_or', cond_and', zip_lst, slc_lst, slc_str, ix_lst, ix_tup, ix_str, at_0, unlock_lock, unlock_same, unlock_mk, lock_nil, mkEnv_cons, mkEnv_nil_0, mkEnv_nil_s, Nat.reduceSub, Nat.sub_self, Nat.reduceAdd, Nat.add_zero, beq_self_eq_true, Bool.not_true, Bool.not_false, cond_true, cond_false, bind_name, bind_two_one, bind_two_many, asInt, List.map_cons, List.map_nil, Bool.or_true, Bool.true_or, Bool.or_false, Bool.false_or, Bool.and_true, Bool.true_and, Bool.and_false, Bool.false_and, walk_lst, walk_tup, walk_str, lkOf_d, List.map_map, Function.comp_def, reduceCtorEq, ix_scr, len_scr, int_int, int_bl, tyS_l, tyS_b, tyS_i, Option.map_some, lstOf_lst, mkL_cell0, alloc_0]; rfl
        | some i => simp only [wrongD, evSs, evS_set, evS_par, evS_aug, evS_exp, evS_ret, evS_retN, evS_ife, evS_raise, evS_setix, evS_setfld, evS_try, evS_cont, evS_brk, evS_pass, evE, evEs, evC, evI, evO, RE.bind_ok, RE.bind_ex, RE.blk_ok, RE.of_some, RE.of_none, binI, op_add, op_sub, RS.unlock_nx, RS.unlock_ret, RS.unlock_ex, RS.of_ok, RS.of_ex, RS.seq_nx, RS.seq_ret, RS.seq_ex, RS.seq_cnt, RS.turn_nx, RS.turn_cnt, RS.turn_ret, RS.turn_ex, getV_0, getV_s, set_0, set_s, ewipe_nil, ewipe_cons, truth_bl, truth_int, truth_lst, truth_non, isTy, len_str, len_lst, len_tup, leI, ltI, gtI, geI, eqI, neI, eqS, neS, ltS, leS, inSign, ninSign, isN_non, isnN_non, isN_int, isnN_int, isB, isnB, fin_ret, fin_nx, fin_ex, fin_cond, seq_cond, turn_cond, cond_ok, cond_bl, cond_f, cond_t, cond_ft, cond_or', cond_and', zip_lst, slc_lst, slc_str, ix_lst, ix_tup, ix_str, at_0, unlock_lock, unlock_same, unlock_mk, lock_nil, mkEnv_cons, mkEnv_nil_0, mkEnv_nil_s, Nat.reduceSub, Nat.sub_self, Nat.reduceAdd, Nat.add_zero, beq_self_eq_true, Bool.not_true, Bool.not_false, cond_true, cond_false, bind_name, bind_two_one, bind_two_many, asInt, List.map_cons, List.map_nil, Bool.or_true, Bool.true_or, Bool.or_false, Bool.false_or, Bool.and_true, Bool.true_and, Bool.and_false, Bool.false_and, walk_lst, walk_tup, walk_str, lkOf_d, List.map_map, Function.comp_def, reduceCtorEq, ix_scr, len_scr, int_int, int_bl, tyS_l, tyS_b, tyS_i, Option.map_some, lstOf_lst, mkL_cell0, alloc_0, pus, U.pu]; rfl
    | _ =>
      simp only [evSs, evS_set, evS_par, evS_aug, evS_exp, evS_ret, evS_retN, evS_ife, evS_raise, evS_setix, evS_setfld, evS_try, evS_cont, evS_brk, evS_pass, evE, evEs, evC, evI, evO, RE.bind_ok, RE.bind_ex, RE.blk_ok, RE.of_some, RE.of_none, binI, op_add, op_sub, RS.unlock_nx, RS.unlock_ret, RS.unlock_ex, RS.of_ok, RS.of_ex, RS.seq_nx, RS.seq_ret, RS.seq_ex, RS.seq_cnt, RS.turn_nx, RS.turn_cnt, RS.turn_ret, RS.turn_ex, getV_0, getV_s, set_0, set_s, ewipe_nil, ewipe_cons, truth_bl, truth_int, truth_lst, truth_non, isTy, len_str, len_lst, len_tup, leI, ltI, gtI, geI, eqI, neI, eqS, neS, ltS, leS, inSign, ninSign, isN_non, isnN_non, isN_int, isnN_int, isB, isnB, fin_ret, fin_nx, fin_ex, fin_cond, seq_cond, turn_cond, cond_ok, cond_bl, cond_f, cond_t, cond_ft, cond_or', cond_and', zip_lst, slc_lst, slc_str, ix_lst, ix_tup, ix_str, at_0, unlock_lock, unlock_same, unlock_mk, lock_nil, mkEnv_cons, mkEnv_nil_0, mkEnv_nil_s, Nat.reduceSub, Nat.sub_self, Nat.reduceAdd, Nat.add_zero, beq_self_eq_true, Bool.not_true, Bool.not_false, cond_true, cond_false, bind_name, bind_two_one, bind_two_many, asInt, List.map_cons, List.map_nil, Bool.or_true, Bool.true_or, Bool.or_false, Bool.false_or, Bool.and_true, Bool.true_and, Bool.and_false, Bool.false_and, walk_lst, walk_tup, walk_str, lkOf_d, List.map_map, Function.comp_def, reduceCtorEq, ix_scr, len_scr, int_int, int_bl, tyS_l, tyS_b, tyS_i, Option.map_some, lstOf_lst, mkL_cell0, alloc_0, pus, U.pu]
      simp only [refusal, e', strD, if_true]
      rfl
end Z
end

section
set_option autoImplicit false
set_option linter.all false
namespace Z
open Z.Law
variable {P : Pg}
structure HD (P : Pg) : Prop extends HC P where
  init : P.init 5 = some 27
  fn_init : P.fn 27 = some f_Dig____init__
  fn_with : P.fn 40 = some f_Dig__kinds_with
  me_with : P.meth 5 21 = some 40
theorem get_cell (q : List Cell) (r : List Cell) (c : Cell) (l : List (List Cell)) : getL (q :: (r ++ [c]) :: l) l.length r.length = some c := by
  rw [getL, if_neg (by simp), getL, if_pos rfl]
  simp
theorem set_cell (q : List Cell) (r : List Cell) (c d : Cell) (l : List (List Cell)) : setL (q :: (r ++ [c]) :: l) l.length r.length d = q :: (r ++ [d]) :: l := by
  rw [setL, if_neg (by simp), setL, if_pos rfl]
  simp
theorem get_cell0 (r : List Cell) (c : Cell) (l : List (List Cell)) : getL ((r ++ [c]) :: l) l.length r.length = some c := by
  rw [getL, if_pos rfl]
  simp
theorem set_cell0 (r : List Cell) (c d : Cell) (l : List (List Cell)) : setL ((r ++ [c]) :: l) l.length r.length d = (r ++ [d]) :: l := by
  rw [setL, if_pos rfl]
  simp
theorem upd_cell (q r : List Cell) (c c' : Cell) (l : List (List Cell)) (f : Cell → Option Cell) (x : D) (h : f c = some c') : updC ⟨q :: (r ++ [c]) :: l, []⟩ (.r l.length r.length) f [.d x] = .ok () ⟨q :: (r ++ [c']) :: l, []⟩ := by
  simp only [updC, List.contains_nil, get_cell, h, List.all_cons, List.all_nil, U.below, Bool.and_true, if_true, Stk.set, set_cell]
  rfl
theorem sf0 (q r : List Cell) (n : Nat) (l : List (List Cell)) (x : D) : updC ⟨q :: (r ++ [.ins n []]) :: l, []⟩ (.r l.length r.length) (setfldC n 0 (.d x)) [.d x] = .ok () ⟨q :: (r ++ [.ins n [.d x]]) :: l, []⟩ := upd_cell _ _ _ _ _ _ _ (by simp [setfldC])
theorem sf1 (q r : List Cell) (n : Nat) (l : List (List Cell)) (a : U) (x : D) : updC ⟨q :: (r ++ [.ins n [a]]) :: l, []⟩ (.r l.length r.length) (setfldC n 1 (.d x)) [.d x] = .ok () ⟨q :: (r ++ [.ins n [a, .d x]]) :: l, []⟩ := upd_cell _ _ _ _ _ _ _ (by simp [setfldC])
theorem sf2 (q r : List Cell) (n : Nat) (l : List (List Cell)) (a b : U) (x : D) : updC ⟨q :: (r ++ [.ins n [a, b]]) :: l, []⟩ (.r l.length r.length) (setfldC n 2 (.d x)) [.d x] = .ok () ⟨q :: (r ++ [.ins n [a, b, .d x]]) :: l, []⟩ := upd_cell _ _ _ _ _ _ _ (by simp [setfldC])
theorem putK_map {α β : Type} (f : α → β) (x : α) (k : Ky) : ∀ (ks : List Ky) (xs : List α), putK ks (xs.map f) k (f x) = ((putK ks xs k x).1, (putK ks xs k x).2.map f)
  | [], [] => rfl
  | [], _ :: _ => rfl
  | _ :: _, [] => rfl
  | k0 :: ks, y :: xs => by
    rw [List.map_cons, putK, putK]
    split
    · rfl
    · rw [putK_map f x k ks xs]; rfl
theorem putK_new {α : Type} (x : α) (k : Ky) : ∀ (ks : List Ky) (xs : List α), ks.length = xs.length → k ∉ ks → putK ks xs k x = (ks ++ [k], xs ++ [x])
  | [], [], _, _ => rfl
  | k0 :: ks, y :: xs, h, n => by
    rw [putK, if_neg (by rintro rfl; exact n (List.mem_cons_self ..)), putK_new x k ks xs (by simpa using h) (fun m => n (List.mem_cons_of_mem _ m))]
    rfl
  | [], _ :: _, h, _ => by cases h
  | _ :: _, [], h, _ => by cases h
theorem compK_new {α : Type} {f : Im → Stk → RE (Option (Ky × U))} {h : α → Im} (ky : α → Ky) (v : α → D) {s : Stk} : ∀ {l : List α} {ks : List Ky} {xs : List D}, ks.length = xs.length → (ks ++ l.map ky).Nodup → (∀ x ∈ l, f (h x) s = .ok (some (ky x, .d (v x))) s) →
    compK f (l.map h) (ks, xs.map .d) s = .ok (ks ++ l.map ky, (xs ++ l.map v).map .d) s
  | [], ks, xs, _, _, _ => by simp [compK]
  | x :: l, ks, xs, hl, nd, e => by
    rw [List.map_cons, compK, e x (List.mem_cons_self ..), RE.blk_ok]
    have hn : ky x ∉ ks := fun m => by
      rw [List.map_cons, List.nodup_append] at nd
      exact nd.2.2 _ m _ (List.mem_cons_self ..) rfl
    simp only [putO]
    rw [putK_new _ _ _ _ (by rw [List.length_map]; exact hl) hn, show xs.map U.d ++ [.d (v x)] = (xs ++ [v x]).map .d by simp]
    rw [compK_new ky v (by simp [hl]) (by rw [List.append_assoc]; exact nd) fun y hy => e y (List.mem_cons_of_mem _ hy)]
    simp
theorem mkK_d (ks : List Ky) (l : List D) (s : Stk) : mkK .val ks (l.map .d) s = .ok (.d (.dct ks l)) s := by simp only [mkK, pus_d]
theorem mkK_map {α : Type} (ks : List Ky) (l : List α) (f : α → D) (s : Stk) : mkK .val ks (l.map fun x => .d (f x)) s = .ok (.d (.dct ks (l.map f))) s := by
  have := mkK_d ks (l.map f) s
  rw [List.map_map] at this
  exact this
theorem items_map {α : Type} (f : α → U) : ∀ (ks : List Ky) (l : List α), ks.length = l.length → itemsI ks (l.map f) = (ks.zip l).map fun p => .many [.d (dkey p.1), f p.2]
  | [], [], _ => rfl
  | k :: ks, x :: l, h => by rw [List.map_cons, itemsI, items_map f ks l (by simpa using h), List.zip_cons_cons, List.map_cons]
  | [], _ :: _, h => by cases h
  | _ :: _, [], h => by cases h
theorem compK_nil {α : Type} {f : Im → Stk → RE (Option (Ky × U))} {h : α → Im} (ky : α → Ky) (v : α → D) {s : Stk} {l : List α} (nd : (l.map ky).Nodup) (e : ∀ x ∈ l, f (h x) s = .ok (some (ky x, .d (v x))) s) :
    compK f (l.map h) ([], []) s = .ok (l.map ky, (l.map v).map .d) s := compK_new (ks := []) (xs := []) ky v rfl nd e
theorem get_cell2 (q' q r : List Cell) (c : Cell) (l : List (List Cell)) : getL (q' :: q :: (r ++ [c]) :: l) l.length r.length = some c := by
  rw [getL, if_neg (by simp; omega), get_cell]
theorem list_lst (s : Stk) (l : List D) : bty .val .list s [.d (.lst l)] = .ok (.d (.lst l)) s := by
  simp only [bty, lstOf, mkL_d]
/-- kinds with their members -/
def ksD (kk : List (S × List S)) : List D := kk.map fun p => .tup [.str p.1, strD p.2]
def memD (kk : List (S × List S)) : D := .dct (kk.map fun p => Ky.s p.1) (kk.map fun p => strD p.2)
def withS (kk : List (S × List S)) (g : S) : List S := (kk.filter fun p => p.2.contains g).map (·.1)
theorem compL_filter {α : Type} {f : Im → Stk → RE (Option U)} {h : α → Im} (c : α → Bool) (g : α → D) {s : Stk} : ∀ {l : List α}, (∀ x ∈ l, f (h x) s = cond (c x) (.ok (some (.d (g x))) s) (.ok none s)) → compL f (l.map h) s = .ok ((l.filter c).map fun x => .d (g x)) s
  | [], _ => rfl
  | x :: l, e => by
    rw [List.map_cons, compL, e x (List.mem_cons_self ..)]
    have ih := compL_filter c g fun y hy => e y (List.mem_cons_of_mem _ hy)
    cases hc : c x with
    | true => rw [List.filter_cons_of_pos hc, cond_true, RE.blk_ok, ih]; rfl
    | false => rw [List.filter_cons_of_neg (by simp [hc]), cond_false, RE.blk_ok, ih]; rfl
theorem kinds_with_eq (H : HD P) (kk : List (S × List S)) (hk : ∀ p ∈ kk, p.1.length ≤ 12) (g : S) (a : U) (q r : List Cell) (l : List (List Cell)) (k : Nat) :
    call P (k + 1) 40 [.r l.length r.length, .d (.str g)] ⟨q :: (r ++ [.ins 5 [a, .d (memD kk)]]) :: l, []⟩ = .ok (.d (strD (withS kk g))) ⟨q :: (r ++ [.ins 5 [a, .d (memD kk)]]) :: l, []⟩ := by
  rw [call_eq H.fn_with rfl]
  have e1 : fldU ⟨[] :: q :: (r ++ [.ins 5 [a, .d (memD kk)]]) :: l, []⟩ 5 1 (.r l.length r.length) = some (.d (memD kk)) := by
    simp only [fldU, insOf, get_cell2]; rfl
  have e2 : itemsU (.d (memD kk)) = some (kk.map fun p => .many [.d (.str p.1), .d (strD p.2)], []) := by
    have : (kk.map fun p => Ky.s p.1).all kyLen = true := by
      rw [List.all_map, List.all_eq_true]
      intro p hp
      have := hk p hp
      simp [kyLen]; omega
    simp only [itemsU, memD, this, if_true, List.map_map]
    congr 2
    clear hk e1 this
    induction kk with
    | nil => rfl
    | cons p kk ih => rw [List.map_cons, List.map_cons, itemsI, ih]; rfl
  simp only [f_Dig__kinds_with, evSs, evS_set, evS_par, evS_aug, evS_exp, evS_ret, evS_retN, evS_ife, evS_raise, evS_setix, evS_setfld, evS_try, evS_cont, evS_brk, evS_pass, evE, evEs, evC, evI, evO, RE.bind_ok, RE.bind_ex, RE.blk_ok, RE.of_some, RE.of_none, binI, op_add, op_sub, RS.unlock_nx, RS.unlock_ret, RS.unlock_ex, RS.of_ok, RS.of_ex, RS.seq_nx, RS.seq_ret, RS.seq_ex, RS.seq_cnt, RS.turn_nx, RS.turn_cnt, RS.turn_ret, RS.turn_ex, getV_0, getV_s, set_0, set_s, ewipe_nil, ewipe_cons, truth_bl, truth_int, truth_lst, truth_non, isTy, len_str, len_lst, len_tup, leI, ltI, gtI, geI, eqI, neI, eqS, neS, ltS, leS, inSign, ninSign, isN_non, isnN_non, isN_int, isnN_int, isB, isnB, fin_ret, fin_nx, fin_ex, fin_cond, seq_cond, turn_cond, cond_ok, cond_bl, cond_f, cond_t, cond_ft, cond_or', cond_and', zip_lst, slc_lst, slc_str, ix_lst, ix_tup, ix_str, at_0, unlock_lock, unlock_same, unlock_mk, lock_nil, mkEnv_cons, mkEnv_nil_0, mkEnv_nil_s, Nat.reduceSub, Nat.sub_self, Nat.reduceAdd, Nat.add_zero, beq_self_eq_true, Bool.not_true, Bool.not_false, cond_true, cond_false, bind_name, bind_two_one, bind_two_many, asInt, List.map_cons, List.map_nil, Bool.or_true, Bool.true_or, Bool.or_false, Bool.false_or, Bool.and_true, Bool.true_and, Bool.and_false, Bool.false_and, walk_lst, walk_tup, walk_str, lkOf_d, List.map_map, Function.comp_def, reduceCtorEq, ix_scr, len_scr, int_int, int_bl, tyS_l, tyS_b, tyS_i, Option.map_some, lstOf_lst, mkL_cell0, alloc_0, e1, e2]
  rw [compL_filter (fun p : S × List S => p.2.contains g) (fun p => .str p.1) (fun p _ => by
    simp only [evSs, evS_set, evS_par, evS_aug, evS_exp, evS_ret, evS_retN, evS_ife, evS_raise, evS_setix, evS_setfld, evS_try, evS_cont, evS_brk, evS_pass, evE, evEs, evC, evI, evO, RE.bind_ok, RE.bind_ex, RE.blk_ok, RE.of_some, RE.of_none, binI, op_add, op_sub, RS.unlock_nx, RS.unlock_ret, RS.unlock_ex, RS.of_ok, RS.of_ex, RS.seq_nx, RS.seq_ret, RS.seq_ex, RS.seq_cnt, RS.turn_nx, RS.turn_cnt, RS.turn_ret, RS.turn_ex, getV_0, getV_s, set_0, set_s, ewipe_nil, ewipe_cons, truth_bl, truth_int, truth_lst, truth_non, isTy, len_str, len_lst, len_tup, leI, ltI, gtI, geI, eqI, neI, eqS, neS, ltS, leS, inSign, ninSign, isN_non, isnN_non, isN_int, isnN_int, isB, isnB, fin_ret, fin_nx, fin_ex, fin_cond, seq_cond, turn_cond, cond_ok, cond_bl, cond_f, cond_t, cond_ft, cond_or', cond_and', zip_lst, slc_lst, slc_str, ix_lst, ix_tup, ix_str, at_0, unlock_lock, unlock_same, unlock_mk, lock_nil, mkEnv_cons, mkEnv_nil_0, mkEnv_nil_s, Nat.reduceSub, Nat.sub_self, Nat.reduceAdd, Nat.add_zero, beq_self_eq_true, Bool.not_true, Bool.not_false, cond_true, cond_false, bind_name, bind_two_one, bind_two_many, asInt, List.map_cons, List.map_nil, Bool.or_true, Bool.true_or, Bool.or_false, Bool.false_or, Bool.and_true, Bool.true_and, Bool.and_false, Bool.false_and, walk_lst, walk_tup, walk_str, lkOf_d, List.map_map, Function.comp_def, reduceCtorEq, ix_scr, len_scr, int_int, int_bl, tyS_l, tyS_b, tyS_i, Option.map_some, lstOf_lst, mkL_cell0, alloc_0, strD, inStrs])]
  simp only [evSs, evS_set, evS_par, evS_aug, evS_exp, evS_ret, evS_retN, evS_ife, evS_raise, evS_setix, evS_setfld, evS_try, evS_cont, evS_brk, evS_pass, evE, evEs, evC, evI, evO, RE.bind_ok, RE.bind_ex, RE.blk_ok, RE.of_some, RE.of_none, binI, op_add, op_sub, RS.unlock_nx, RS.unlock_ret, RS.unlock_ex, RS.of_ok, RS.of_ex, RS.seq_nx, RS.seq_ret, RS.seq_ex, RS.seq_cnt, RS.turn_nx, RS.turn_cnt, RS.turn_ret, RS.turn_ex, getV_0, getV_s, set_0, set_s, ewipe_nil, ewipe_cons, truth_bl, truth_int, truth_lst, truth_non, isTy, len_str, len_lst, len_tup, leI, ltI, gtI, geI, eqI, neI, eqS, neS, ltS, leS, inSign, ninSign, isN_non, isnN_non, isN_int, isnN_int, isB, isnB, fin_ret, fin_nx, fin_ex, fin_cond, seq_cond, turn_cond, cond_ok, cond_bl, cond_f, cond_t, cond_ft, cond_or', cond_and', zip_lst, slc_lst, slc_str, ix_lst, ix_tup, ix_str, at_0, unlock_lock, unlock_same, unlock_mk, lock_nil, mkEnv_cons, mkEnv_nil_0, mkEnv_nil_s, Nat.reduceSub, Nat.sub_self, Nat.reduceAdd, Nat.add_zero, beq_self_eq_true, Bool.not_true, Bool.not_false, cond_true, cond_false, bind_name, bind_two_one, bind_two_many, asInt, List.map_cons, List.map_nil, Bool.or_true, Bool.true_or, Bool.or_false, Bool.false_or, Bool.and_true, Bool.true_and, Bool.and_false, Bool.false_and, walk_lst, walk_tup, walk_str, lkOf_d, List.map_map, Function.comp_def, reduceCtorEq, ix_scr, len_scr, int_int, int_bl, tyS_l, tyS_b, tyS_i, Option.map_some, lstOf_lst, mkL_cell0, alloc_0, mkL_map]
  simp [strD, withS, List.map_map, Function.comp_def]
/-- a dig that is right -/
structure Right (gs : List S) (kk : List (S × List S)) : Prop where
  short : ∀ p ∈ kk, p.1.length ≤ 12
  nd : (kk.map (·.1)).Nodup
  ndg : gs.Nodup
def digD (gs : List S) (kk : List (S × List S)) : D := .obj 5 [strD gs, memD kk, .dct (gs.map .s) (gs.map fun g => strD (withS kk g))]
theorem nodup_s {l : List S} (h : l.Nodup) : (l.map Ky.s).Nodup := by
  rw [List.nodup_iff_pairwise_ne] at h ⊢
  rw [List.pairwise_map]
  exact h.imp fun h e => h (by cases e; rfl)
theorem init_eq (H : HD P) (gs : List S) (kk : List (S × List S)) (R : Right gs kk) (hr : refusal (strD gs) (.lst (ksD kk)) = none) (hg : flat1 (strD gs) = true) (hk : kindsOk (.lst (ksD kk)) = true) (r : List Cell) (l : List (List Cell)) (k : Nat) :
    call P (k + 7) 27 [.r l.length r.length, .d (strD gs), .d (.lst (ksD kk))] ⟨(r ++ [.ins 5 []]) :: l, []⟩ = .ok (.d .non) ⟨(r ++ [.ins 5 [.d (strD gs), .d (memD kk), .d (.dct (gs.map .s) (gs.map fun g => strD (withS kk g)))]]) :: l, []⟩ := by
  rw [call_eq H.fn_init rfl]
  simp only [f_Dig____init__, evSs, evS_set, evS_par, evS_aug, evS_exp, evS_ret, evS_retN, evS_ife, evS_raise, evS_setix, evS_setfld, evS_try, evS_cont, evS_brk, evS_pass, evE, evEs, evC, evI, evO, RE.bind_ok, RE.bind_ex, RE.blk_ok, RE.of_some, RE.of_none, binI, op_add, op_sub, RS.unlock_nx, RS.unlock_ret, RS.unlock_ex, RS.of_ok, RS.of_ex, RS.seq_nx, RS.seq_ret, RS.seq_ex, RS.seq_cnt, RS.turn_nx, RS.turn_cnt, RS.turn_ret, RS.turn_ex, getV_0, getV_s, set_0, set_s, ewipe_nil, ewipe_cons, truth_bl, truth_int, truth_lst, truth_non, isTy, len_str, len_lst, len_tup, leI, ltI, gtI, geI, eqI, neI, eqS, neS, ltS, leS, inSign, ninSign, isN_non, isnN_non, isN_int, isnN_int, isB, isnB, fin_ret, fin_nx, fin_ex, fin_cond, seq_cond, turn_cond, cond_ok, cond_bl, cond_f, cond_t, cond_ft, cond_or', cond_and', zip_lst, slc_lst, slc_str, ix_lst, ix_tup, ix_str, at_0, unlock_lock, unlock_same, unlock_mk, lock_nil, mkEnv_cons, mkEnv_nil_0, mkEnv_nil_s, Nat.reduceSub, Nat.sub_self, Nat.reduceAdd, Nat.add_zero, beq_self_eq_true, Bool.not_true, Bool.not_false, cond_true, cond_false, bind_name, bind_two_one, bind_two_many, asInt, List.map_cons, List.map_nil, Bool.or_true, Bool.true_or, Bool.or_false, Bool.false_or, Bool.and_true, Bool.true_and, Bool.and_false, Bool.false_and, walk_lst, walk_tup, walk_str, lkOf_d, List.map_map, Function.comp_def, reduceCtorEq, ix_scr, len_scr, int_int, int_bl, tyS_l, tyS_b, tyS_i, Option.map_some, lstOf_lst, mkL_cell0, alloc_0, check_dig_eq H.toHC _ _ hg hk, hr]
  have ek : fldU ⟨[] :: (r ++ [.ins 5 [.d (strD gs), .d (memD kk)]]) :: l, []⟩ 5 0 (.r l.length r.length) = some (.d (strD gs)) := by
    simp only [fldU, insOf, get_cell]; rfl
  have em : methU P ⟨[] :: (r ++ [.ins 5 [.d (strD gs), .d (memD kk)]]) :: l, []⟩ 21 (.r l.length r.length) = some 40 := by
    simp only [methU, insOf, get_cell]; exact H.me_with
  simp only [strD, list_lst, sf0, evSs, evS_set, evS_par, evS_aug, evS_exp, evS_ret, evS_retN, evS_ife, evS_raise, evS_setix, evS_setfld, evS_try, evS_cont, evS_brk, evS_pass, evE, evEs, evC, evI, evO, RE.bind_ok, RE.bind_ex, RE.blk_ok, RE.of_some, RE.of_none, binI, op_add, op_sub, RS.unlock_nx, RS.unlock_ret, RS.unlock_ex, RS.of_ok, RS.of_ex, RS.seq_nx, RS.seq_ret, RS.seq_ex, RS.seq_cnt, RS.turn_nx, RS.turn_cnt, RS.turn_ret, RS.turn_ex, getV_0, getV_s, set_0, set_s, ewipe_nil, ewipe_cons, truth_bl, truth_int, truth_lst, truth_non, isTy, len_str, len_lst, len_tup, leI, ltI, gtI, geI, eqI, neI, eqS, neS, ltS, leS, inSign, ninSign, isN_non, isnN_non, isN_int, isnN_int, isB, isnB, fin_ret, fin_nx, fin_ex, fin_cond, seq_cond, turn_cond, cond_ok, cond_bl, cond_f, cond_t, cond_ft, cond_or', cond_and', zip_lst, slc_lst, slc_str, ix_lst, ix_tup, ix_str, at_0, unlock_lock, unlock_same, unlock_mk, lock_nil, mkEnv_cons, mkEnv_nil_0, mkEnv_nil_s, Nat.reduceSub, Nat.sub_self, Nat.reduceAdd, Nat.add_zero, beq_self_eq_true, Bool.not_true, Bool.not_false, cond_true, cond_false, bind_name, bind_two_one, bind_two_many, asInt, List.map_cons, List.map_nil, Bool.or_true, Bool.true_or, Bool.or_false, Bool.false_or, Bool.and_true, Bool.true_and, Bool.and_false, Bool.false_and, walk_lst, walk_tup, walk_str, lkOf_d, List.map_map, Function.comp_def, reduceCtorEq, ix_scr, len_scr, int_int, int_bl, tyS_l, tyS_b, tyS_i, Option.map_some, lstOf_lst, mkL_cell0, alloc_0, ksD]
  rw [compK_nil (fun p : S × List S => Ky.s p.1) (fun p => strD p.2) (by have := nodup_s R.nd; rw [List.map_map] at this; exact this) (fun p _ => by
    simp only [evSs, evS_set, evS_par, evS_aug, evS_exp, evS_ret, evS_retN, evS_ife, evS_raise, evS_setix, evS_setfld, evS_try, evS_cont, evS_brk, evS_pass, evE, evEs, evC, evI, evO, RE.bind_ok, RE.bind_ex, RE.blk_ok, RE.of_some, RE.of_none, binI, op_add, op_sub, RS.unlock_nx, RS.unlock_ret, RS.unlock_ex, RS.of_ok, RS.of_ex, RS.seq_nx, RS.seq_ret, RS.seq_ex, RS.seq_cnt, RS.turn_nx, RS.turn_cnt, RS.turn_ret, RS.turn_ex, getV_0, getV_s, set_0, set_s, ewipe_nil, ewipe_cons, truth_bl, truth_int, truth_lst, truth_non, isTy, len_str, len_lst, len_tup, leI, ltI, gtI, geI, eqI, neI, eqS, neS, ltS, leS, inSign, ninSign, isN_non, isnN_non, isN_int, isnN_int, isB, isnB, fin_ret, fin_nx, fin_ex, fin_cond, seq_cond, turn_cond, cond_ok, cond_bl, cond_f, cond_t, cond_ft, cond_or', cond_and', zip_lst, slc_lst, slc_str, ix_lst, ix_tup, ix_str, at_0, unlock_lock, unlock_same, unlock_mk, lock_nil, mkEnv_cons, mkEnv_nil_0, mkEnv_nil_s, Nat.reduceSub, Nat.sub_self, Nat.reduceAdd, Nat.add_zero, beq_self_eq_true, Bool.not_true, Bool.not_false, cond_true, cond_false, bind_name, bind_two_one, bind_two_many, asInt, List.map_cons, List.map_nil, Bool.or_true, Bool.true_or, Bool.or_false, Bool.false_or, Bool.and_true, Bool.true_and, Bool.and_false, Bool.false_and, walk_lst, walk_tup, walk_str, lkOf_d, List.map_map, Function.comp_def, reduceCtorEq, ix_scr, len_scr, int_int, int_bl, tyS_l, tyS_b, tyS_i, Option.map_some, lstOf_lst, mkL_cell0, alloc_0, kyOf, strD, list_lst])]
  simp only [evSs, evS_set, evS_par, evS_aug, evS_exp, evS_ret, evS_retN, evS_ife, evS_raise, evS_setix, evS_setfld, evS_try, evS_cont, evS_brk, evS_pass, evE, evEs, evC, evI, evO, RE.bind_ok, RE.bind_ex, RE.blk_ok, RE.of_some, RE.of_none, binI, op_add, op_sub, RS.unlock_nx, RS.unlock_ret, RS.unlock_ex, RS.of_ok, RS.of_ex, RS.seq_nx, RS.seq_ret, RS.seq_ex, RS.seq_cnt, RS.turn_nx, RS.turn_cnt, RS.turn_ret, RS.turn_ex, getV_0, getV_s, set_0, set_s, ewipe_nil, ewipe_cons, truth_bl, truth_int, truth_lst, truth_non, isTy, len_str, len_lst, len_tup, leI, ltI, gtI, geI, eqI, neI, eqS, neS, ltS, leS, inSign, ninSign, isN_non, isnN_non, isN_int, isnN_int, isB, isnB, fin_ret, fin_nx, fin_ex, fin_cond, seq_cond, turn_cond, cond_ok, cond_bl, cond_f, cond_t, cond_ft, cond_or', cond_and', zip_lst, slc_lst, slc_str, ix_lst, ix_tup, ix_str, at_0, unlock_lock, unlock_same, unlock_mk, lock_nil, mkEnv_cons, mkEnv_nil_0, mkEnv_nil_s, Nat.reduceSub, Nat.sub_self, Nat.reduceAdd, Nat.add_zero, beq_self_eq_true, Bool.not_true, Bool.not_false, cond_true, cond_false, bind_name, bind_two_one, bind_two_many, asInt, List.map_cons, List.map_nil, Bool.or_true, Bool.true_or, Bool.or_false, Bool.false_or, Bool.and_true, Bool.true_and, Bool.and_false, Bool.false_and, walk_lst, walk_tup, walk_str, lkOf_d, List.map_map, Function.comp_def, reduceCtorEq, ix_scr, len_scr, int_int, int_bl, tyS_l, tyS_b, tyS_i, Option.map_some, lstOf_lst, mkL_cell0, alloc_0, mkK_map, sf1]
  rw [show (D.dct (kk.map fun p => Ky.s p.1) (kk.map fun p => strD p.2)) = memD kk from rfl]
  simp only [strD] at ek em
  simp only [evSs, evS_set, evS_par, evS_aug, evS_exp, evS_ret, evS_retN, evS_ife, evS_raise, evS_setix, evS_setfld, evS_try, evS_cont, evS_brk, evS_pass, evE, evEs, evC, evI, evO, RE.bind_ok, RE.bind_ex, RE.blk_ok, RE.of_some, RE.of_none, binI, op_add, op_sub, RS.unlock_nx, RS.unlock_ret, RS.unlock_ex, RS.of_ok, RS.of_ex, RS.seq_nx, RS.seq_ret, RS.seq_ex, RS.seq_cnt, RS.turn_nx, RS.turn_cnt, RS.turn_ret, RS.turn_ex, getV_0, getV_s, set_0, set_s, ewipe_nil, ewipe_cons, truth_bl, truth_int, truth_lst, truth_non, isTy, len_str, len_lst, len_tup, leI, ltI, gtI, geI, eqI, neI, eqS, neS, ltS, leS, inSign, ninSign, isN_non, isnN_non, isN_int, isnN_int, isB, isnB, fin_ret, fin_nx, fin_ex, fin_cond, seq_cond, turn_cond, cond_ok, cond_bl, cond_f, cond_t, cond_ft, cond_or', cond_and', zip_lst, slc_lst, slc_str, ix_lst, ix_tup, ix_str, at_0, unlock_lock, unlock_same, unlock_mk, lock_nil, mkEnv_cons, mkEnv_nil_0, mkEnv_nil_s, Nat.reduceSub, Nat.sub_self, Nat.reduceAdd, Nat.add_zero, beq_self_eq_true, Bool.not_true, Bool.not_false, cond_true, cond_false, bind_name, bind_two_one, bind_two_many, asInt, List.map_cons, List.map_nil, Bool.or_true, Bool.true_or, Bool.or_false, Bool.false_or, Bool.and_true, Bool.true_and, Bool.and_false, Bool.false_and, walk_lst, walk_tup, walk_str, lkOf_d, List.map_map, Function.comp_def, reduceCtorEq, ix_scr, len_scr, int_int, int_bl, tyS_l, tyS_b, tyS_i, Option.map_some, lstOf_lst, mkL_cell0, alloc_0, ek]
  rw [compK_nil (fun g : S => Ky.s g) (fun g => strD (withS kk g)) (nodup_s R.ndg) (fun g _ => by
    simp only [evSs, evS_set, evS_par, evS_aug, evS_exp, evS_ret, evS_retN, evS_ife, evS_raise, evS_setix, evS_setfld, evS_try, evS_cont, evS_brk, evS_pass, evE, evEs, evC, evI, evO, RE.bind_ok, RE.bind_ex, RE.blk_ok, RE.of_some, RE.of_none, binI, op_add, op_sub, RS.unlock_nx, RS.unlock_ret, RS.unlock_ex, RS.of_ok, RS.of_ex, RS.seq_nx, RS.seq_ret, RS.seq_ex, RS.seq_cnt, RS.turn_nx, RS.turn_cnt, RS.turn_ret, RS.turn_ex, getV_0, getV_s, set_0, set_s, ewipe_nil, ewipe_cons, truth_bl, truth_int, truth_lst, truth_non, isTy, len_str, len_lst, len_tup, leI, ltI, gtI, geI, eqI, neI, eqS, neS, ltS, leS, inSign, ninSign, isN_non, isnN_non, isN_int, isnN_int, isB, isnB, fin_ret, fin_nx, fin_ex, fin_cond, seq_cond, turn_cond, cond_ok, cond_bl, cond_f, cond_t, cond_ft, cond_or', cond_and', zip_lst, slc_lst, slc_str, ix_lst, ix_tup, ix_str, at_0, unlock_lock, unlock_same, unlock_mk, lock_nil, mkEnv_cons, mkEnv_nil_0, mkEnv_nil_s, Nat.reduceSub, Nat.sub_self, Nat.reduceAdd, Nat.add_zero, beq_self_eq_true, Bool.not_true, Bool.not_false, cond_true, cond_false, bind_name, bind_two_one, bind_two_many, asInt, List.map_cons, List.map_nil, Bool.or_true, Bool.true_or, Bool.or_false, Bool.false_or, Bool.and_true, Bool.true_and, Bool.and_false, Bool.false_and, walk_lst, walk_tup, walk_str, lkOf_d, List.map_map, Function.comp_def, reduceCtorEq, ix_scr, len_scr, int_int, int_bl, tyS_l, tyS_b, tyS_i, Option.map_some, lstOf_lst, mkL_cell0, alloc_0, kyOf, em]
    rw [kinds_with_eq H kk R.short]
    rfl)]
  simp only [evSs, evS_set, evS_par, evS_aug, evS_exp, evS_ret, evS_retN, evS_ife, evS_raise, evS_setix, evS_setfld, evS_try, evS_cont, evS_brk, evS_pass, evE, evEs, evC, evI, evO, RE.bind_ok, RE.bind_ex, RE.blk_ok, RE.of_some, RE.of_none, binI, op_add, op_sub, RS.unlock_nx, RS.unlock_ret, RS.unlock_ex, RS.of_ok, RS.of_ex, RS.seq_nx, RS.seq_ret, RS.seq_ex, RS.seq_cnt, RS.turn_nx, RS.turn_cnt, RS.turn_ret, RS.turn_ex, getV_0, getV_s, set_0, set_s, ewipe_nil, ewipe_cons, truth_bl, truth_int, truth_lst, truth_non, isTy, len_str, len_lst, len_tup, leI, ltI, gtI, geI, eqI, neI, eqS, neS, ltS, leS, inSign, ninSign, isN_non, isnN_non, isN_int, isnN_int, isB, isnB, fin_ret, fin_nx, fin_ex, fin_cond, seq_cond, turn_cond, cond_ok, cond_bl, cond_f, cond_t, cond_ft, cond_or', cond_and', zip_lst, slc_lst, slc_str, ix_lst, ix_tup, ix_str, at_0, unlock_lock, unlock_same, unlock_mk, lock_nil, mkEnv_cons, mkEnv_nil_0, mkEnv_nil_s, Nat.reduceSub, Nat.sub_self, Nat.reduceAdd, Nat.add_zero, beq_self_eq_true, Bool.not_true, Bool.not_false, cond_true, cond_false, bind_name, bind_two_one, bind_two_many, asInt, List.map_cons, List.map_nil, Bool.or_true, Bool.true_or, Bool.or_false, Bool.false_or, Bool.and_true, Bool.true_and, Bool.and_false, Bool.false_and, walk_lst, walk_tup, walk_str, lkOf_d, List.map_map, Function.comp_def, reduceCtorEq, ix_scr, len_scr, int_int, int_bl, tyS_l, tyS_b, tyS_i, Option.map_some, lstOf_lst, mkL_cell0, alloc_0, mkK_map, sf2]
  rfl
theorem init_ex (H : HD P) (g x : D) (hg : flat1 g = true) (hk : kindsOk x = true) (i : Int) (hr : refusal g x = some i) (r : List Cell) (l : List (List Cell)) (k : Nat) :
    call P (k + 7) 27 [.r l.length r.length, .d g, .d x] ⟨(r ++ [.ins 5 []]) :: l, []⟩ = .ex 1 [.int i] ⟨(r ++ [.ins 5 []]) :: l, []⟩ := by
  rw [call_eq H.fn_init rfl]
  simp only [f_Dig____init__, evSs, evS_set, evS_par, evS_aug, evS_exp, evS_ret, evS_retN, evS_ife, evS_raise, evS_setix, evS_setfld, evS_try, evS_cont, evS_brk, evS_pass, evE, evEs, evC, evI, evO, RE.bind_ok, RE.bind_ex, RE.blk_ok, RE.of_some, RE.of_none, binI, op_add, op_sub, RS.unlock_nx, RS.unlock_ret, RS.unlock_ex, RS.of_ok, RS.of_ex, RS.seq_nx, RS.seq_ret, RS.seq_ex, RS.seq_cnt, RS.turn_nx, RS.turn_cnt, RS.turn_ret, RS.turn_ex, getV_0, getV_s, set_0, set_s, ewipe_nil, ewipe_cons, truth_bl, truth_int, truth_lst, truth_non, isTy, len_str, len_lst, len_tup, leI, ltI, gtI, geI, eqI, neI, eqS, neS, ltS, leS, inSign, ninSign, isN_non, isnN_non, isN_int, isnN_int, isB, isnB, fin_ret, fin_nx, fin_ex, fin_cond, seq_cond, turn_cond, cond_ok, cond_bl, cond_f, cond_t, cond_ft, cond_or', cond_and', zip_lst, slc_lst, slc_str, ix_lst, ix_tup, ix_str, at_0, unlock_lock, unlock_same, unlock_mk, lock_nil, mkEnv_cons, mkEnv_nil_0, mkEnv_nil_s, Nat.reduceSub, Nat.sub_self, Nat.reduceAdd, Nat.add_zero, beq_self_eq_true, Bool.not_true, Bool.not_false, cond_true, cond_false, bind_name, bind_two_one, bind_two_many, asInt, List.map_cons, List.map_nil, Bool.or_true, Bool.true_or, Bool.or_false, Bool.false_or, Bool.and_true, Bool.true_and, Bool.and_false, Bool.false_and, walk_lst, walk_tup, walk_str, lkOf_d, List.map_map, Function.comp_def, reduceCtorEq, ix_scr, len_scr, int_int, int_bl, tyS_l, tyS_b, tyS_i, Option.map_some, lstOf_lst, mkL_cell0, alloc_0, check_dig_eq H.toHC _ _ hg hk, hr]
structure HR (P : Pg) : Prop extends HD P where
  refuse : P.fn 215 = some f__law_refusal_v6
  sub1 : P.sub 1 1 = true
  sub2 : P.sub 1 4 = false
  sub3 : P.sub 1 7 = true
/-- inputs that the model can take: what is refused, or a right dig -/
def Takes (g x : D) : Prop := flat1 g = true ∧ kindsOk x = true ∧ (refusal g x = none → ∃ gs kk, g = strD gs ∧ x = .lst (ksD kk) ∧ Right gs kk)
def optD : Option Int → D
  | some i => .int i
  | none => .non
theorem frz_obj (r : List Cell) (l : List (List Cell)) (n : Nat) (a b d : D) : frzU 3 ⟨(r ++ [.ins n [.d a, .d b, .d d]]) :: l, []⟩ (.r l.length r.length) = .ok (.d (.obj n [a, b, d])) ⟨(r ++ [.gone]) :: l, []⟩ := by
  simp only [frzU, frz, List.contains_nil, get_cell0, Stk.set, set_cell0, List.foldr]
  rfl
theorem refusal_eq (H : HR P) (g x : D) (t : Takes g x) (rs : List (List Cell)) (k : Nat) : call P (k + 8) 215 [.d g, .d x] ⟨rs, []⟩ = .ok (.d (optD (refusal g x))) ⟨rs, []⟩ := by
  rw [call_eq H.refuse rfl]
  obtain ⟨hg, hk, hr⟩ := t
  have ea : alloc (.ins 5 []) ⟨[] :: rs, []⟩ = .ok (.r rs.length ([] : List Cell).length) ⟨([] ++ [.ins 5 []]) :: rs, []⟩ := rfl
  simp only [f__law_refusal_v6, evSs, evS_set, evS_par, evS_aug, evS_exp, evS_ret, evS_retN, evS_ife, evS_raise, evS_setix, evS_setfld, evS_try, evS_cont, evS_brk, evS_pass, evE, evEs, evC, evI, evO, RE.bind_ok, RE.bind_ex, RE.blk_ok, RE.of_some, RE.of_none, binI, op_add, op_sub, RS.unlock_nx, RS.unlock_ret, RS.unlock_ex, RS.of_ok, RS.of_ex, RS.seq_nx, RS.seq_ret, RS.seq_ex, RS.seq_cnt, RS.turn_nx, RS.turn_cnt, RS.turn_ret, RS.turn_ex, getV_0, getV_s, set_0, set_s, ewipe_nil, ewipe_cons, truth_bl, truth_int, truth_lst, truth_non, isTy, len_str, len_lst, len_tup, leI, ltI, gtI, geI, eqI, neI, eqS, neS, ltS, leS, inSign, ninSign, isN_non, isnN_non, isN_int, isnN_int, isB, isnB, fin_ret, fin_nx, fin_ex, fin_cond, seq_cond, turn_cond, cond_ok, cond_bl, cond_f, cond_t, cond_ft, cond_or', cond_and', zip_lst, slc_lst, slc_str, ix_lst, ix_tup, ix_str, at_0, unlock_lock, unlock_same, unlock_mk, lock_nil, mkEnv_cons, mkEnv_nil_0, mkEnv_nil_s, Nat.reduceSub, Nat.sub_self, Nat.reduceAdd, Nat.add_zero, beq_self_eq_true, Bool.not_true, Bool.not_false, cond_true, cond_false, bind_name, bind_two_one, bind_two_many, asInt, List.map_cons, List.map_nil, Bool.or_true, Bool.true_or, Bool.or_false, Bool.false_or, Bool.and_true, Bool.true_and, Bool.and_false, Bool.false_and, walk_lst, walk_tup, walk_str, lkOf_d, List.map_map, Function.comp_def, reduceCtorEq, ix_scr, len_scr, int_int, int_bl, tyS_l, tyS_b, tyS_i, Option.map_some, lstOf_lst, mkL_cell0, alloc_0, H.init, ea]
  cases e : refusal g x with
  | some i =>
    rw [init_ex H.toHD g x hg hk i e]
    simp only [evSs, evS_set, evS_par, evS_aug, evS_exp, evS_ret, evS_retN, evS_ife, evS_raise, evS_setix, evS_setfld, evS_try, evS_cont, evS_brk, evS_pass, evE, evEs, evC, evI, evO, RE.bind_ok, RE.bind_ex, RE.blk_ok, RE.of_some, RE.of_none, binI, op_add, op_sub, RS.unlock_nx, RS.unlock_ret, RS.unlock_ex, RS.of_ok, RS.of_ex, RS.seq_nx, RS.seq_ret, RS.seq_ex, RS.seq_cnt, RS.turn_nx, RS.turn_cnt, RS.turn_ret, RS.turn_ex, getV_0, getV_s, set_0, set_s, ewipe_nil, ewipe_cons, truth_bl, truth_int, truth_lst, truth_non, isTy, len_str, len_lst, len_tup, leI, ltI, gtI, geI, eqI, neI, eqS, neS, ltS, leS, inSign, ninSign, isN_non, isnN_non, isN_int, isnN_int, isB, isnB, fin_ret, fin_nx, fin_ex, fin_cond, seq_cond, turn_cond, cond_ok, cond_bl, cond_f, cond_t, cond_ft, cond_or', cond_and', zip_lst, slc_lst, slc_str, ix_lst, ix_tup, ix_str, at_0, unlock_lock, unlock_same, unlock_mk, lock_nil, mkEnv_cons, mkEnv_nil_0, mkEnv_nil_s, Nat.reduceSub, Nat.sub_self, Nat.reduceAdd, Nat.add_zero, beq_self_eq_true, Bool.not_true, Bool.not_false, cond_true, cond_false, bind_name, bind_two_one, bind_two_many, asInt, List.map_cons, List.map_nil, Bool.or_true, Bool.true_or, Bool.or_false, Bool.false_or, Bool.and_true, Bool.true_and, Bool.and_false, Bool.false_and, walk_lst, walk_tup, walk_str, lkOf_d, List.map_map, Function.comp_def, reduceCtorEq, ix_scr, len_scr, int_int, int_bl, tyS_l, tyS_b, tyS_i, Option.map_some, lstOf_lst, mkL_cell0, alloc_0, RS.catch, catchL, H.sub1, evSu, evX, H.sub2, H.sub3, evXE]
    rfl
  | none =>
    obtain ⟨gs, kk, rfl, rfl, R⟩ := hr e
    rw [init_eq H.toHD gs kk R e hg hk]
    simp only [evSs, evS_set, evS_par, evS_aug, evS_exp, evS_ret, evS_retN, evS_ife, evS_raise, evS_setix, evS_setfld, evS_try, evS_cont, evS_brk, evS_pass, evE, evEs, evC, evI, evO, RE.bind_ok, RE.bind_ex, RE.blk_ok, RE.of_some, RE.of_none, binI, op_add, op_sub, RS.unlock_nx, RS.unlock_ret, RS.unlock_ex, RS.of_ok, RS.of_ex, RS.seq_nx, RS.seq_ret, RS.seq_ex, RS.seq_cnt, RS.turn_nx, RS.turn_cnt, RS.turn_ret, RS.turn_ex, getV_0, getV_s, set_0, set_s, ewipe_nil, ewipe_cons, truth_bl, truth_int, truth_lst, truth_non, isTy, len_str, len_lst, len_tup, leI, ltI, gtI, geI, eqI, neI, eqS, neS, ltS, leS, inSign, ninSign, isN_non, isnN_non, isN_int, isnN_int, isB, isnB, fin_ret, fin_nx, fin_ex, fin_cond, seq_cond, turn_cond, cond_ok, cond_bl, cond_f, cond_t, cond_ft, cond_or', cond_and', zip_lst, slc_lst, slc_str, ix_lst, ix_tup, ix_str, at_0, unlock_lock, unlock_same, unlock_mk, lock_nil, mkEnv_cons, mkEnv_nil_0, mkEnv_nil_s, Nat.reduceSub, Nat.sub_self, Nat.reduceAdd, Nat.add_zero, beq_self_eq_true, Bool.not_true, Bool.not_false, cond_true, cond_false, bind_name, bind_two_one, bind_two_many, asInt, List.map_cons, List.map_nil, Bool.or_true, Bool.true_or, Bool.or_false, Bool.false_or, Bool.and_true, Bool.true_and, Bool.and_false, Bool.false_and, walk_lst, walk_tup, walk_str, lkOf_d, List.map_map, Function.comp_def, reduceCtorEq, ix_scr, len_scr, int_int, int_bl, tyS_l, tyS_b, tyS_i, Option.map_some, lstOf_lst, mkL_cell0, alloc_0, asNon, frz_obj, RS.catch]
    rfl
end Z
end

section
set_option autoImplicit false
set_option linter.all false
set_option maxRecDepth 100000
namespace Z
open Z.Law
variable {P : Pg}
structure HG (P : Pg) : Prop extends HR P where
  numbers : P.fn 176 = some f__law_numbers
def Small (n : Int) : Prop := 0 ≤ n ∧ n < 1009
def nsD (ns : List Int) : D := .lst (ns.map .int)
/-- the k-th mixed number -/
def mix (at_ cell : Int) (i : Nat) : Int :=
  (((cell * 48271 + ((0 + (i : Int)) + 1) * 69621 + at_ * 4001) % 2147483647 * ((cell * 48271 + ((0 + (i : Int)) + 1) * 69621 + at_ * 4001) % 2147483647) + 16807 * ((0 + (i : Int)) + 3)) % 2147483629) / 7 % 1009
def nSt (at_ c0 : Int) : Nat → Int × List Int
  | 0 => (c0, [])
  | i + 1 => cond (decide ((1000000000000000000 : Int) ≤ (nSt at_ c0 i).1)) ((nSt at_ c0 i).1 / 1009, (nSt at_ c0 i).2 ++ [(nSt at_ c0 i).1 % 1009]) ((nSt at_ c0 i).1, (nSt at_ c0 i).2 ++ [mix at_ (nSt at_ c0 i).1 i])
def seed0 (scr : List Int) (n : Nat) : Int := match scr[n]? with
  | some x => x
  | none => 1000003 * ((n : Int) + 1)
def seed (scr : List Int) (n : Nat) : Int := cond (decide (seed0 scr n < 0)) (1 - 2 * seed0 scr n) (seed0 scr n)
def nums (scr : List Int) (n many : Nat) : List Int := (nSt n (seed scr n) many).2
theorem mod1009 (n : Int) : Small (n % 1009) := ⟨Int.emod_nonneg _ (by decide), Int.emod_lt_of_pos _ (by decide)⟩
theorem nSt_len (a c : Int) : ∀ i, (nSt a c i).2.length = i
  | 0 => rfl
  | i + 1 => by
    rw [nSt]
    cases decide ((1000000000000000000 : Int) ≤ (nSt a c i).1) <;> simp [nSt_len a c i]
theorem nSt_small (a c : Int) : ∀ i, ∀ n ∈ (nSt a c i).2, Small n
  | 0 => fun n h => by cases h
  | i + 1 => fun n h => by
    rw [nSt] at h
    cases e : decide ((1000000000000000000 : Int) ≤ (nSt a c i).1) <;> rw [e] at h <;> simp only [cond_true, cond_false] at h <;> rcases List.mem_append.mp h with h | h
    · exact nSt_small a c i n h
    · rw [List.mem_singleton.mp h]; exact mod1009 _
    · exact nSt_small a c i n h
    · rw [List.mem_singleton.mp h]; exact mod1009 _
theorem nums_len (scr : List Int) (n many : Nat) : (nums scr n many).length = many := nSt_len ..
theorem nums_small (scr : List Int) (n many : Nat) : ∀ x ∈ nums scr n many, Small x := nSt_small _ _ _
/-- within the loop of the numbers -/
def InvN (scr : List Int) (at_ many c0 : Int) (rs : List (List Cell)) (i : Nat) (ρ : Env) (s : Stk) : Prop :=
  ∃ (kk mx : Option U), ρ = [some (.d (.scr scr)), some (.d (.int at_)), some (.d (.int many)), some (.d (.int (nSt at_ c0 i).1)), some (.r rs.length 0), kk, mx] ∧ s = ⟨[.lst ((nSt at_ c0 i).2.map fun n => .d (.int n))] :: rs, []⟩
theorem numbers_step (cl : Nat → List U → Stk → RE U) (scr : List Int) (at_ many c0 : Int) (rs : List (List Cell)) (i : Nat) (hi : i < 16777216) (ρ : Env) (s : Stk) (h : InvN scr at_ many c0 rs i ρ s) :
    ∃ ρ' s', ((fun x ρ s => RS.of (RE.of (bindT (.name 5) x ρ) s) fun ρ1 s => evSs P cl (match l__law_numbers_0 with | .for _ _ b => b | _ => []) ρ1 s) (Im.one (.d (.int (0 + (i : Int))))) ρ s = .nx ρ' s') ∧ InvN scr at_ many c0 rs (i + 1) ρ' s' := by
  obtain ⟨kk, mx, rfl, rfl⟩ := h
  have hl : ((nSt at_ c0 i).2.map fun n => U.d (.int n)).length < big := by rw [List.length_map, nSt_len]; exact hi
  have hp : intOp .pow 10 18 = some 1000000000000000000 := by decide +kernel
  have m1 : ∀ c : Int, intOp .mul c 48271 = some (c * 48271) := fun c => op_mul _ _ (mul_r _ _ (by decide) (by decide))
  have m2 : ∀ c : Int, intOp .mul c 69621 = some (c * 69621) := fun c => op_mul _ _ (mul_r _ _ (by decide) (by decide))
  have m3 : ∀ c : Int, intOp .mul c 4001 = some (c * 4001) := fun c => op_mul _ _ (mul_r _ _ (by decide) (by decide))
  have m4 : ∀ c : Int, intOp .mul 16807 c = some (16807 * c) := fun c => op_mul _ _ (mul_l _ _ (by decide) (by decide))
  have m5 : ∀ c : Int, intOp .mul (c % 2147483647) (c % 2147483647) = some ((c % 2147483647) * (c % 2147483647)) := fun c => op_mul _ _ (mul_l _ _ (by have := Int.emod_nonneg c (show (2147483647 : Int) ≠ 0 by decide); omega) (by have := Int.emod_lt_of_pos c (show (0 : Int) < 2147483647 by decide); omega))
  have d1 : ∀ c : Int, intOp .mod c 1009 = some (c % 1009) := fun c => op_mod _ _ (by decide)
  have d2 : ∀ c : Int, intOp .mod c 2147483647 = some (c % 2147483647) := fun c => op_mod _ _ (by decide)
  have d3 : ∀ c : Int, intOp .mod c 2147483629 = some (c % 2147483629) := fun c => op_mod _ _ (by decide)
  have f1 : ∀ c : Int, intOp .fdiv c 1009 = some (c / 1009) := fun c => op_fdiv _ _ (by decide)
  have f2 : ∀ c : Int, intOp .fdiv c 7 = some (c / 7) := fun c => op_fdiv _ _ (by decide)
  have e := nSt.eq_2 at_ c0 i
  simp -implicitDefEqProofs only [l__law_numbers_0, evSs, evS_set, evS_par, evS_aug, evS_exp, evS_ret, evS_retN, evS_ife, evS_raise, evS_setix, evS_setfld, evS_try, evS_cont, evS_brk, evS_pass, evE, evEs, evC, evI, evO, RE.bind_ok, RE.bind_ex, RE.blk_ok, RE.of_some, RE.of_none, binI, op_add, op_sub, RS.unlock_nx, RS.unlock_ret, RS.unlock_ex, RS.of_ok, RS.of_ex, RS.seq_nx, RS.seq_ret, RS.seq_ex, RS.seq_cnt, RS.turn_nx, RS.turn_cnt, RS.turn_ret, RS.turn_ex, getV_0, getV_s, set_0, set_s, ewipe_nil, ewipe_cons, truth_bl, truth_int, truth_lst, truth_non, isTy, len_str, len_lst, len_tup, leI, ltI, gtI, geI, eqI, neI, eqS, neS, ltS, leS, inSign, ninSign, isN_non, isnN_non, isN_int, isnN_int, isB, isnB, fin_ret, fin_nx, fin_ex, fin_cond, seq_cond, turn_cond, cond_ok, cond_bl, cond_f, cond_t, cond_ft, cond_or', cond_and', zip_lst, slc_lst, slc_str, ix_lst, ix_tup, ix_str, at_0, unlock_lock, unlock_same, unlock_mk, lock_nil, mkEnv_cons, mkEnv_nil_0, mkEnv_nil_s, Nat.reduceSub, Nat.sub_self, Nat.reduceAdd, Nat.add_zero, beq_self_eq_true, Bool.not_true, Bool.not_false, cond_true, cond_false, bind_name, bind_two_one, bind_two_many, asInt, List.map_cons, List.map_nil, Bool.or_true, Bool.true_or, Bool.or_false, Bool.false_or, Bool.and_true, Bool.true_and, Bool.and_false, Bool.false_and, walk_lst, walk_tup, walk_str, lkOf_d, List.map_map, Function.comp_def, reduceCtorEq, ix_scr, len_scr, int_int, int_bl, tyS_l, tyS_b, tyS_i, Option.map_some, lstOf_lst, mkL_cell0, alloc_0, hp]
  cases h : decide ((1000000000000000000 : Int) ≤ (nSt at_ c0 i).1) with
  | true =>
    rw [h, cond_true] at e
    simp -implicitDefEqProofs only [evSs, evS_set, evS_par, evS_aug, evS_exp, evS_ret, evS_retN, evS_ife, evS_raise, evS_setix, evS_setfld, evS_try, evS_cont, evS_brk, evS_pass, evE, evEs, evC, evI, evO, RE.bind_ok, RE.bind_ex, RE.blk_ok, RE.of_some, RE.of_none, binI, op_add, op_sub, RS.unlock_nx, RS.unlock_ret, RS.unlock_ex, RS.of_ok, RS.of_ex, RS.seq_nx, RS.seq_ret, RS.seq_ex, RS.seq_cnt, RS.turn_nx, RS.turn_cnt, RS.turn_ret, RS.turn_ex, getV_0, getV_s, set_0, set_s, ewipe_nil, ewipe_cons, truth_bl, truth_int, truth_lst, truth_non, isTy, len_str, len_lst, len_tup, leI, ltI, gtI, geI, eqI, neI, eqS, neS, ltS, leS, inSign, ninSign, isN_non, isnN_non, isN_int, isnN_int, isB, isnB, fin_ret, fin_nx, fin_ex, fin_cond, seq_cond, turn_cond, cond_ok, cond_bl, cond_f, cond_t, cond_ft, cond_or', cond_and', zip_lst, slc_lst, slc_str, ix_lst, ix_tup, ix_str, at_0, unlock_lock, unlock_same, unlock_mk, lock_nil, mkEnv_cons, mkEnv_nil_0, mkEnv_nil_s, Nat.reduceSub, Nat.sub_self, Nat.reduceAdd, Nat.add_zero, beq_self_eq_true, Bool.not_true, Bool.not_false, cond_true, cond_false, bind_name, bind_two_one, bind_two_many, asInt, List.map_cons, List.map_nil, Bool.or_true, Bool.true_or, Bool.or_false, Bool.false_or, Bool.and_true, Bool.true_and, Bool.and_false, Bool.false_and, walk_lst, walk_tup, walk_str, lkOf_d, List.map_map, Function.comp_def, reduceCtorEq, ix_scr, len_scr, int_int, int_bl, tyS_l, tyS_b, tyS_i, Option.map_some, lstOf_lst, mkL_cell0, alloc_0, d1, f1, bmOk_top, append_top _ _ _ _ hl]
    refine ⟨_, _, rfl, _, _, by rw [e], by rw [e]; simp⟩
  | false =>
    rw [h, cond_false] at e
    simp -implicitDefEqProofs only [evSs, evS_set, evS_par, evS_aug, evS_exp, evS_ret, evS_retN, evS_ife, evS_raise, evS_setix, evS_setfld, evS_try, evS_cont, evS_brk, evS_pass, evE, evEs, evC, evI, evO, RE.bind_ok, RE.bind_ex, RE.blk_ok, RE.of_some, RE.of_none, binI, op_add, op_sub, RS.unlock_nx, RS.unlock_ret, RS.unlock_ex, RS.of_ok, RS.of_ex, RS.seq_nx, RS.seq_ret, RS.seq_ex, RS.seq_cnt, RS.turn_nx, RS.turn_cnt, RS.turn_ret, RS.turn_ex, getV_0, getV_s, set_0, set_s, ewipe_nil, ewipe_cons, truth_bl, truth_int, truth_lst, truth_non, isTy, len_str, len_lst, len_tup, leI, ltI, gtI, geI, eqI, neI, eqS, neS, ltS, leS, inSign, ninSign, isN_non, isnN_non, isN_int, isnN_int, isB, isnB, fin_ret, fin_nx, fin_ex, fin_cond, seq_cond, turn_cond, cond_ok, cond_bl, cond_f, cond_t, cond_ft, cond_or', cond_and', zip_lst, slc_lst, slc_str, ix_lst, ix_tup, ix_str, at_0, unlock_lock, unlock_same, unlock_mk, lock_nil, mkEnv_cons, mkEnv_nil_0, mkEnv_nil_s, Nat.reduceSub, Nat.sub_self, Nat.reduceAdd, Nat.add_zero, beq_self_eq_true, Bool.not_true, Bool.not_false, cond_true, cond_false, bind_name, bind_two_one, bind_two_many, asInt, List.map_cons, List.map_nil, Bool.or_true, Bool.true_or, Bool.or_false, Bool.false_or, Bool.and_true, Bool.true_and, Bool.and_false, Bool.false_and, walk_lst, walk_tup, walk_str, lkOf_d, List.map_map, Function.comp_def, reduceCtorEq, ix_scr, len_scr, int_int, int_bl, tyS_l, tyS_b, tyS_i, Option.map_some, lstOf_lst, mkL_cell0, alloc_0, m1, m2, m3, m4, m5, d1, d2, d3, f2, bmOk_top, append_top _ _ _ _ hl]
    refine ⟨_, _, rfl, _, _, by rw [e], by rw [e]; simp [mix]⟩
theorem seed_at (scr : List Int) (n : Nat) (h : n < scr.length) : atI scr (n : Int) = some (seed0 scr n) := by
  rw [atI_nat, seed0, List.getElem?_eq_getElem h]
theorem seed_out (scr : List Int) (n : Nat) (h : ¬n < scr.length) : 1000003 * ((n : Int) + 1) = seed0 scr n := by
  rw [seed0, List.getElem?_eq_none (by omega)]
theorem numbers_eq (hg : HG P) (scr : List Int) (n many : Nat) (hm : many ≤ 1000) (k : Nat) (rs : List (List Cell)) :
    call P (k + 1) 176 [.d (.scr scr), .d (.int n), .d (.int many)] ⟨rs, []⟩ = .ok (.d (nsD (nums scr n many))) ⟨rs, []⟩ := by
  rw [call_eq hg.numbers rfl]
  have m1 : ∀ c : Int, intOp .mul 1000003 c = some (1000003 * c) := fun c => op_mul _ _ (mul_l _ _ (by decide) (by decide))
  have m2 : ∀ c : Int, intOp .mul 2 c = some (2 * c) := fun c => op_mul _ _ (mul_l _ _ (by decide) (by decide))
  simp -implicitDefEqProofs only [f__law_numbers, unlock_nx_mk, unlock_ret_mk, evSs, evS_set, evS_par, evS_aug, evS_exp, evS_ret, evS_retN, evS_ife, evS_raise, evS_setix, evS_setfld, evS_try, evS_cont, evS_brk, evS_pass, evE, evEs, evC, evI, evO, RE.bind_ok, RE.bind_ex, RE.blk_ok, RE.of_some, RE.of_none, binI, op_add, op_sub, RS.unlock_nx, RS.unlock_ret, RS.unlock_ex, RS.of_ok, RS.of_ex, RS.seq_nx, RS.seq_ret, RS.seq_ex, RS.seq_cnt, RS.turn_nx, RS.turn_cnt, RS.turn_ret, RS.turn_ex, getV_0, getV_s, set_0, set_s, ewipe_nil, ewipe_cons, truth_bl, truth_int, truth_lst, truth_non, isTy, len_str, len_lst, len_tup, leI, ltI, gtI, geI, eqI, neI, eqS, neS, ltS, leS, inSign, ninSign, isN_non, isnN_non, isN_int, isnN_int, isB, isnB, fin_ret, fin_nx, fin_ex, fin_cond, seq_cond, turn_cond, cond_ok, cond_bl, cond_f, cond_t, cond_ft, cond_or', cond_and', zip_lst, slc_lst, slc_str, ix_lst, ix_tup, ix_str, at_0, unlock_lock, unlock_same, unlock_mk, lock_nil, mkEnv_cons, mkEnv_nil_0, mkEnv_nil_s, Nat.reduceSub, Nat.sub_self, Nat.reduceAdd, Nat.add_zero, beq_self_eq_true, Bool.not_true, Bool.not_false, cond_true, cond_false, bind_name, bind_two_one, bind_two_many, asInt, List.map_cons, List.map_nil, Bool.or_true, Bool.true_or, Bool.or_false, Bool.false_or, Bool.and_true, Bool.true_and, Bool.and_false, Bool.false_and, walk_lst, walk_tup, walk_str, lkOf_d, List.map_map, Function.comp_def, reduceCtorEq, ix_scr, len_scr, int_int, int_bl, tyS_l, tyS_b, tyS_i, Option.map_some, lstOf_lst, mkL_cell0, alloc_0, m1]
  have main : ∀ kk mx : Option U, fin ((evS P (call P k) l__law_numbers_0 [some (.d (.scr scr)), some (.d (.int n)), some (.d (.int many)), some (.d (.int (seed scr n))), some (.r rs.length 0), kk, mx] ⟨[.lst []] :: rs, []⟩).seq fun ρ s => (RS.of (RE.of (getV ρ 4) s) fun u s => RS.ret u s).seq fun ρ s => RS.nx ρ s) = .ok (.d (nsD (nums scr n many))) ⟨rs, []⟩ := by
    intro kk mx
    rw [show l__law_numbers_0 = .for (.name 5) (.rng1 (.var 2)) (match l__law_numbers_0 with | .for _ _ b => b | _ => []) from rfl, evS_for]
    simp -implicitDefEqProofs only [unlock_nx_mk, unlock_ret_mk, evSs, evS_set, evS_par, evS_aug, evS_exp, evS_ret, evS_retN, evS_ife, evS_raise, evS_setix, evS_setfld, evS_try, evS_cont, evS_brk, evS_pass, evE, evEs, evC, evI, evO, RE.bind_ok, RE.bind_ex, RE.blk_ok, RE.of_some, RE.of_none, binI, op_add, op_sub, RS.unlock_nx, RS.unlock_ret, RS.unlock_ex, RS.of_ok, RS.of_ex, RS.seq_nx, RS.seq_ret, RS.seq_ex, RS.seq_cnt, RS.turn_nx, RS.turn_cnt, RS.turn_ret, RS.turn_ex, getV_0, getV_s, set_0, set_s, ewipe_nil, ewipe_cons, truth_bl, truth_int, truth_lst, truth_non, isTy, len_str, len_lst, len_tup, leI, ltI, gtI, geI, eqI, neI, eqS, neS, ltS, leS, inSign, ninSign, isN_non, isnN_non, isN_int, isnN_int, isB, isnB, fin_ret, fin_nx, fin_ex, fin_cond, seq_cond, turn_cond, cond_ok, cond_bl, cond_f, cond_t, cond_ft, cond_or', cond_and', zip_lst, slc_lst, slc_str, ix_lst, ix_tup, ix_str, at_0, unlock_lock, unlock_same, unlock_mk, lock_nil, mkEnv_cons, mkEnv_nil_0, mkEnv_nil_s, Nat.reduceSub, Nat.sub_self, Nat.reduceAdd, Nat.add_zero, beq_self_eq_true, Bool.not_true, Bool.not_false, cond_true, cond_false, bind_name, bind_two_one, bind_two_many, asInt, List.map_cons, List.map_nil, Bool.or_true, Bool.true_or, Bool.or_false, Bool.false_or, Bool.and_true, Bool.true_and, Bool.and_false, Bool.false_and, walk_lst, walk_tup, walk_str, lkOf_d, List.map_map, Function.comp_def, reduceCtorEq, ix_scr, len_scr, int_int, int_bl, tyS_l, tyS_b, tyS_i, Option.map_some, lstOf_lst, mkL_cell0, alloc_0, rng1_nat many (Nat.le_trans hm (by decide))]
    obtain ⟨ρ', s', e, kk', mx', e1, e2⟩ := forL_inv (F := fun x ρ s => RS.of (RE.of (bindT (.name 5) x ρ) s) fun ρ1 s => evSs P (call P k) (match l__law_numbers_0 with | .for _ _ b => b | _ => []) ρ1 s) (fun (i : Nat) => Im.one (.d (.int (0 + (i : Int))))) (InvN scr n many (seed scr n) rs) (List.range many) 0 [some (.d (.scr scr)), some (.d (.int n)), some (.d (.int many)), some (.d (.int (seed scr n))), some (.r rs.length 0), kk, mx] ⟨[.lst []] :: rs, []⟩ ⟨kk, mx, rfl, rfl⟩ fun i x ρ s hx hi => by
      obtain ⟨hx1, hx2⟩ := List.getElem?_eq_some_iff.mp hx
      rw [List.getElem_range] at hx2
      subst hx2
      rw [List.length_range] at hx1
      rw [Nat.zero_add] at hi ⊢
      obtain ⟨ρ', s', e, i'⟩ := numbers_step (P := P) (call P k) scr n many (seed scr n) rs i (by omega) ρ s hi
      exact ⟨ρ', s', .inl e, i'⟩
    rw [e]
    subst e1 e2
    rw [List.length_range, Nat.zero_add]
    simp -implicitDefEqProofs only [unlock_nx_mk, unlock_ret_mk, evSs, evS_set, evS_par, evS_aug, evS_exp, evS_ret, evS_retN, evS_ife, evS_raise, evS_setix, evS_setfld, evS_try, evS_cont, evS_brk, evS_pass, evE, evEs, evC, evI, evO, RE.bind_ok, RE.bind_ex, RE.blk_ok, RE.of_some, RE.of_none, binI, op_add, op_sub, RS.unlock_nx, RS.unlock_ret, RS.unlock_ex, RS.of_ok, RS.of_ex, RS.seq_nx, RS.seq_ret, RS.seq_ex, RS.seq_cnt, RS.turn_nx, RS.turn_cnt, RS.turn_ret, RS.turn_ex, getV_0, getV_s, set_0, set_s, ewipe_nil, ewipe_cons, truth_bl, truth_int, truth_lst, truth_non, isTy, len_str, len_lst, len_tup, leI, ltI, gtI, geI, eqI, neI, eqS, neS, ltS, leS, inSign, ninSign, isN_non, isnN_non, isN_int, isnN_int, isB, isnB, fin_ret, fin_nx, fin_ex, fin_cond, seq_cond, turn_cond, cond_ok, cond_bl, cond_f, cond_t, cond_ft, cond_or', cond_and', zip_lst, slc_lst, slc_str, ix_lst, ix_tup, ix_str, at_0, unlock_lock, unlock_same, unlock_mk, lock_nil, mkEnv_cons, mkEnv_nil_0, mkEnv_nil_s, Nat.reduceSub, Nat.sub_self, Nat.reduceAdd, Nat.add_zero, beq_self_eq_true, Bool.not_true, Bool.not_false, cond_true, cond_false, bind_name, bind_two_one, bind_two_many, asInt, List.map_cons, List.map_nil, Bool.or_true, Bool.true_or, Bool.or_false, Bool.false_or, Bool.and_true, Bool.true_and, Bool.and_false, Bool.false_and, walk_lst, walk_tup, walk_str, lkOf_d, List.map_map, Function.comp_def, reduceCtorEq, ix_scr, len_scr, int_int, int_bl, tyS_l, tyS_b, tyS_i, Option.map_some, lstOf_lst, mkL_cell0, alloc_0]
    rw [show ((nSt n (seed scr n) many).2.map fun n => U.d (.int n)) = ((nums scr n many).map D.int).map U.d by rw [List.map_map]; rfl, fin_top]
    rfl
  by_cases h1 : n < scr.length
  · have d1 : decide ((n : Int) < (scr.length : Int)) = true := by simp [h1]
    simp -implicitDefEqProofs only [unlock_nx_mk, unlock_ret_mk, evSs, evS_set, evS_par, evS_aug, evS_exp, evS_ret, evS_retN, evS_ife, evS_raise, evS_setix, evS_setfld, evS_try, evS_cont, evS_brk, evS_pass, evE, evEs, evC, evI, evO, RE.bind_ok, RE.bind_ex, RE.blk_ok, RE.of_some, RE.of_none, binI, op_add, op_sub, RS.unlock_nx, RS.unlock_ret, RS.unlock_ex, RS.of_ok, RS.of_ex, RS.seq_nx, RS.seq_ret, RS.seq_ex, RS.seq_cnt, RS.turn_nx, RS.turn_cnt, RS.turn_ret, RS.turn_ex, getV_0, getV_s, set_0, set_s, ewipe_nil, ewipe_cons, truth_bl, truth_int, truth_lst, truth_non, isTy, len_str, len_lst, len_tup, leI, ltI, gtI, geI, eqI, neI, eqS, neS, ltS, leS, inSign, ninSign, isN_non, isnN_non, isN_int, isnN_int, isB, isnB, fin_ret, fin_nx, fin_ex, fin_cond, seq_cond, turn_cond, cond_ok, cond_bl, cond_f, cond_t, cond_ft, cond_or', cond_and', zip_lst, slc_lst, slc_str, ix_lst, ix_tup, ix_str, at_0, unlock_lock, unlock_same, unlock_mk, lock_nil, mkEnv_cons, mkEnv_nil_0, mkEnv_nil_s, Nat.reduceSub, Nat.sub_self, Nat.reduceAdd, Nat.add_zero, beq_self_eq_true, Bool.not_true, Bool.not_false, cond_true, cond_false, bind_name, bind_two_one, bind_two_many, asInt, List.map_cons, List.map_nil, Bool.or_true, Bool.true_or, Bool.or_false, Bool.false_or, Bool.and_true, Bool.true_and, Bool.and_false, Bool.false_and, walk_lst, walk_tup, walk_str, lkOf_d, List.map_map, Function.comp_def, reduceCtorEq, ix_scr, len_scr, int_int, int_bl, tyS_l, tyS_b, tyS_i, Option.map_some, lstOf_lst, mkL_cell0, alloc_0, d1, seed_at scr n h1]
    cases h : decide (seed0 scr n < 0) with
    | true =>
      simp -implicitDefEqProofs only [unlock_nx_mk, unlock_ret_mk, evSs, evS_set, evS_par, evS_aug, evS_exp, evS_ret, evS_retN, evS_ife, evS_raise, evS_setix, evS_setfld, evS_try, evS_cont, evS_brk, evS_pass, evE, evEs, evC, evI, evO, RE.bind_ok, RE.bind_ex, RE.blk_ok, RE.of_some, RE.of_none, binI, op_add, op_sub, RS.unlock_nx, RS.unlock_ret, RS.unlock_ex, RS.of_ok, RS.of_ex, RS.seq_nx, RS.seq_ret, RS.seq_ex, RS.seq_cnt, RS.turn_nx, RS.turn_cnt, RS.turn_ret, RS.turn_ex, getV_0, getV_s, set_0, set_s, ewipe_nil, ewipe_cons, truth_bl, truth_int, truth_lst, truth_non, isTy, len_str, len_lst, len_tup, leI, ltI, gtI, geI, eqI, neI, eqS, neS, ltS, leS, inSign, ninSign, isN_non, isnN_non, isN_int, isnN_int, isB, isnB, fin_ret, fin_nx, fin_ex, fin_cond, seq_cond, turn_cond, cond_ok, cond_bl, cond_f, cond_t, cond_ft, cond_or', cond_and', zip_lst, slc_lst, slc_str, ix_lst, ix_tup, ix_str, at_0, unlock_lock, unlock_same, unlock_mk, lock_nil, mkEnv_cons, mkEnv_nil_0, mkEnv_nil_s, Nat.reduceSub, Nat.sub_self, Nat.reduceAdd, Nat.add_zero, beq_self_eq_true, Bool.not_true, Bool.not_false, cond_true, cond_false, bind_name, bind_two_one, bind_two_many, asInt, List.map_cons, List.map_nil, Bool.or_true, Bool.true_or, Bool.or_false, Bool.false_or, Bool.and_true, Bool.true_and, Bool.and_false, Bool.false_and, walk_lst, walk_tup, walk_str, lkOf_d, List.map_map, Function.comp_def, reduceCtorEq, ix_scr, len_scr, int_int, int_bl, tyS_l, tyS_b, tyS_i, Option.map_some, lstOf_lst, mkL_cell0, alloc_0, m2]
      rw [show 1 - 2 * seed0 scr n = seed scr n by rw [seed, h]; rfl]
      exact main _ _
    | false =>
      simp -implicitDefEqProofs only [unlock_nx_mk, unlock_ret_mk, evSs, evS_set, evS_par, evS_aug, evS_exp, evS_ret, evS_retN, evS_ife, evS_raise, evS_setix, evS_setfld, evS_try, evS_cont, evS_brk, evS_pass, evE, evEs, evC, evI, evO, RE.bind_ok, RE.bind_ex, RE.blk_ok, RE.of_some, RE.of_none, binI, op_add, op_sub, RS.unlock_nx, RS.unlock_ret, RS.unlock_ex, RS.of_ok, RS.of_ex, RS.seq_nx, RS.seq_ret, RS.seq_ex, RS.seq_cnt, RS.turn_nx, RS.turn_cnt, RS.turn_ret, RS.turn_ex, getV_0, getV_s, set_0, set_s, ewipe_nil, ewipe_cons, truth_bl, truth_int, truth_lst, truth_non, isTy, len_str, len_lst, len_tup, leI, ltI, gtI, geI, eqI, neI, eqS, neS, ltS, leS, inSign, ninSign, isN_non, isnN_non, isN_int, isnN_int, isB, isnB, fin_ret, fin_nx, fin_ex, fin_cond, seq_cond, turn_cond, cond_ok, cond_bl, cond_f, cond_t, cond_ft, cond_or', cond_and', zip_lst, slc_lst, slc_str, ix_lst, ix_tup, ix_str, at_0, unlock_lock, unlock_same, unlock_mk, lock_nil, mkEnv_cons, mkEnv_nil_0, mkEnv_nil_s, Nat.reduceSub, Nat.sub_self, Nat.reduceAdd, Nat.add_zero, beq_self_eq_true, Bool.not_true, Bool.not_false, cond_true, cond_false, bind_name, bind_two_one, bind_two_many, asInt, List.map_cons, List.map_nil, Bool.or_true, Bool.true_or, Bool.or_false, Bool.false_or, Bool.and_true, Bool.true_and, Bool.and_false, Bool.false_and, walk_lst, walk_tup, walk_str, lkOf_d, List.map_map, Function.comp_def, reduceCtorEq, ix_scr, len_scr, int_int, int_bl, tyS_l, tyS_b, tyS_i, Option.map_some, lstOf_lst, mkL_cell0, alloc_0, m2]
      rw [show seed0 scr n = seed scr n by rw [seed, h]; rfl]
      exact main _ _
  · have d1 : decide ((n : Int) < (scr.length : Int)) = false := by simp; omega
    simp -implicitDefEqProofs only [unlock_nx_mk, unlock_ret_mk, evSs, evS_set, evS_par, evS_aug, evS_exp, evS_ret, evS_retN, evS_ife, evS_raise, evS_setix, evS_setfld, evS_try, evS_cont, evS_brk, evS_pass, evE, evEs, evC, evI, evO, RE.bind_ok, RE.bind_ex, RE.blk_ok, RE.of_some, RE.of_none, binI, op_add, op_sub, RS.unlock_nx, RS.unlock_ret, RS.unlock_ex, RS.of_ok, RS.of_ex, RS.seq_nx, RS.seq_ret, RS.seq_ex, RS.seq_cnt, RS.turn_nx, RS.turn_cnt, RS.turn_ret, RS.turn_ex, getV_0, getV_s, set_0, set_s, ewipe_nil, ewipe_cons, truth_bl, truth_int, truth_lst, truth_non, isTy, len_str, len_lst, len_tup, leI, ltI, gtI, geI, eqI, neI, eqS, neS, ltS, leS, inSign, ninSign, isN_non, isnN_non, isN_int, isnN_int, isB, isnB, fin_ret, fin_nx, fin_ex, fin_cond, seq_cond, turn_cond, cond_ok, cond_bl, cond_f, cond_t, cond_ft, cond_or', cond_and', zip_lst, slc_lst, slc_str, ix_lst, ix_tup, ix_str, at_0, unlock_lock, unlock_same, unlock_mk, lock_nil, mkEnv_cons, mkEnv_nil_0, mkEnv_nil_s, Nat.reduceSub, Nat.sub_self, Nat.reduceAdd, Nat.add_zero, beq_self_eq_true, Bool.not_true, Bool.not_false, cond_true, cond_false, bind_name, bind_two_one, bind_two_many, asInt, List.map_cons, List.map_nil, Bool.or_true, Bool.true_or, Bool.or_false, Bool.false_or, Bool.and_true, Bool.true_and, Bool.and_false, Bool.false_and, walk_lst, walk_tup, walk_str, lkOf_d, List.map_map, Function.comp_def, reduceCtorEq, ix_scr, len_scr, int_int, int_bl, tyS_l, tyS_b, tyS_i, Option.map_some, lstOf_lst, mkL_cell0, alloc_0, d1]
    rw [seed_out scr n h1]
    cases h : decide (seed0 scr n < 0) with
    | true =>
      simp -implicitDefEqProofs only [unlock_nx_mk, unlock_ret_mk, evSs, evS_set, evS_par, evS_aug, evS_exp, evS_ret, evS_retN, evS_ife, evS_raise, evS_setix, evS_setfld, evS_try, evS_cont, evS_brk, evS_pass, evE, evEs, evC, evI, evO, RE.bind_ok, RE.bind_ex, RE.blk_ok, RE.of_some, RE.of_none, binI, op_add, op_sub, RS.unlock_nx, RS.unlock_ret, RS.unlock_ex, RS.of_ok, RS.of_ex, RS.seq_nx, RS.seq_ret, RS.seq_ex, RS.seq_cnt, RS.turn_nx, RS.turn_cnt, RS.turn_ret, RS.turn_ex, getV_0, getV_s, set_0, set_s, ewipe_nil, ewipe_cons, truth_bl, truth_int, truth_lst, truth_non, isTy, len_str, len_lst, len_tup, leI, ltI, gtI, geI, eqI, neI, eqS, neS, ltS, leS, inSign, ninSign, isN_non, isnN_non, isN_int, isnN_int, isB, isnB, fin_ret, fin_nx, fin_ex, fin_cond, seq_cond, turn_cond, cond_ok, cond_bl, cond_f, cond_t, cond_ft, cond_or', cond_and', zip_lst, slc_lst, slc_str, ix_lst, ix_tup, ix_str, at_0, unlock_lock, unlock_same, unlock_mk, lock_nil, mkEnv_cons, mkEnv_nil_0, mkEnv_nil_s, Nat.reduceSub, Nat.sub_self, Nat.reduceAdd, Nat.add_zero, beq_self_eq_true, Bool.not_true, Bool.not_false, cond_true, cond_false, bind_name, bind_two_one, bind_two_many, asInt, List.map_cons, List.map_nil, Bool.or_true, Bool.true_or, Bool.or_false, Bool.false_or, Bool.and_true, Bool.true_and, Bool.and_false, Bool.false_and, walk_lst, walk_tup, walk_str, lkOf_d, List.map_map, Function.comp_def, reduceCtorEq, ix_scr, len_scr, int_int, int_bl, tyS_l, tyS_b, tyS_i, Option.map_some, lstOf_lst, mkL_cell0, alloc_0, m2]
      rw [show 1 - 2 * seed0 scr n = seed scr n by rw [seed, h]; rfl]
      exact main _ _
    | false =>
      simp -implicitDefEqProofs only [unlock_nx_mk, unlock_ret_mk, evSs, evS_set, evS_par, evS_aug, evS_exp, evS_ret, evS_retN, evS_ife, evS_raise, evS_setix, evS_setfld, evS_try, evS_cont, evS_brk, evS_pass, evE, evEs, evC, evI, evO, RE.bind_ok, RE.bind_ex, RE.blk_ok, RE.of_some, RE.of_none, binI, op_add, op_sub, RS.unlock_nx, RS.unlock_ret, RS.unlock_ex, RS.of_ok, RS.of_ex, RS.seq_nx, RS.seq_ret, RS.seq_ex, RS.seq_cnt, RS.turn_nx, RS.turn_cnt, RS.turn_ret, RS.turn_ex, getV_0, getV_s, set_0, set_s, ewipe_nil, ewipe_cons, truth_bl, truth_int, truth_lst, truth_non, isTy, len_str, len_lst, len_tup, leI, ltI, gtI, geI, eqI, neI, eqS, neS, ltS, leS, inSign, ninSign, isN_non, isnN_non, isN_int, isnN_int, isB, isnB, fin_ret, fin_nx, fin_ex, fin_cond, seq_cond, turn_cond, cond_ok, cond_bl, cond_f, cond_t, cond_ft, cond_or', cond_and', zip_lst, slc_lst, slc_str, ix_lst, ix_tup, ix_str, at_0, unlock_lock, unlock_same, unlock_mk, lock_nil, mkEnv_cons, mkEnv_nil_0, mkEnv_nil_s, Nat.reduceSub, Nat.sub_self, Nat.reduceAdd, Nat.add_zero, beq_self_eq_true, Bool.not_true, Bool.not_false, cond_true, cond_false, bind_name, bind_two_one, bind_two_many, asInt, List.map_cons, List.map_nil, Bool.or_true, Bool.true_or, Bool.or_false, Bool.false_or, Bool.and_true, Bool.true_and, Bool.and_false, Bool.false_and, walk_lst, walk_tup, walk_str, lkOf_d, List.map_map, Function.comp_def, reduceCtorEq, ix_scr, len_scr, int_int, int_bl, tyS_l, tyS_b, tyS_i, Option.map_some, lstOf_lst, mkL_cell0, alloc_0, m2]
      rw [show seed0 scr n = seed scr n by rw [seed, h]; rfl]
      exact main _ _
end Z
end

section
set_option autoImplicit false
set_option linter.all false
set_option maxRecDepth 100000
namespace Z
open Z.Law
variable {P : Pg}
structure HF (P : Pg) : Prop extends HG P where
  names : P.fn 170 = some f__law_names
def LT : S := [97, 98, 99, 100, 101, 102, 103, 104, 105, 106, 107, 108, 109, 110, 111, 112, 113, 114, 115, 116, 117, 118, 119, 120, 121, 122]
def FG : S := [48, 49, 50, 51, 52, 53, 54, 55, 56, 57]
def SG : S := LT ++ FG
theorem at_getD {α : Type} (l : List α) (i : Int) (d : α) (h0 : 0 ≤ i) (h1 : i < l.length) : atI l i = some (l.getD i.toNat d) := by
  obtain ⟨n, rfl⟩ := Int.eq_ofNat_of_zero_le h0
  rw [atI_nat]
  have h : n < l.length := by omega
  simp [List.getD, List.getElem?_eq_getElem h]
def nsAt (ns : List Int) (i : Nat) : Int := ns.getD i 0
theorem nsAt_small {ns : List Int} (h : ∀ x ∈ ns, Small x) (i : Nat) : Small (nsAt ns i) := by
  by_cases hi : i < ns.length
  · simp only [nsAt, List.getD, List.getElem?_eq_getElem hi]; exact h _ (List.getElem_mem hi)
  · simp only [nsAt, List.getD, List.getElem?_eq_none (Nat.le_of_not_lt hi)]; exact ⟨by decide, by decide⟩
theorem ix_ns (s : Stk) (ns : List Int) (i : Int) (n : Nat) (hn : i = (n : Int)) (h : n < ns.length) : ixU s (.d (nsD ns)) (.d (.int i)) = some (.d (.int (nsAt ns n))) := by
  subst hn
  rw [nsD, ix_lst, List.map_map, atI_map, atI_nat, List.getElem?_eq_getElem h]
  simp [nsAt, List.getD, List.getElem?_eq_getElem h]
def lt0 (ns : List Int) (j : Nat) : Nat := LT.getD (nsAt ns (3 * j) % 26).toNat 97
def sgn (ns : List Int) (j t : Nat) : Nat := SG.getD ((nsAt ns (3 * j + 2) + 7 * (0 + (t : Int))) % 36).toNat 97
def tl (ns : List Int) (j n : Nat) : S := (List.range n).map (sgn ns j)
def lenW (ns : List Int) (j : Nat) : Nat := (nsAt ns (3 * j + 1) % 12 * (if (nsAt ns (3 * j + 2) % 3 == 0) = true then 1 else 0)).toNat
def word (ns : List Int) (j : Nat) : S := lt0 ns j :: tl ns j (lenW ns j)
theorem tl_succ (ns : List Int) (j n : Nat) : tl ns j (n + 1) = tl ns j n ++ [sgn ns j n] := by simp [tl, List.range_succ]
theorem tl_len (ns : List Int) (j n : Nat) : (tl ns j n).length = n := by simp [tl]
theorem lenW_eq (ns : List Int) (j : Nat) : nsAt ns (3 * j + 1) % 12 * (if (nsAt ns (3 * j + 2) % 3 == 0) = true then 1 else 0) = ((lenW ns j : Nat) : Int) := by
  rw [lenW]; split <;> omega
theorem lenW_le (ns : List Int) (j : Nat) : lenW ns j ≤ 11 := by
  rw [lenW]; split <;> omega
theorem binS (s : Stk) (a b : S) (h : a.length + b.length ≤ 16777216) : binU .val .add s (.d (.str a)) (.d (.str b)) = .ok (.d (.str (a ++ b))) s := by
  simp only [binU, asInt, asStr, if_pos h]
def InvW (ns : List Int) (j : Nat) (a0 a1 a2 a6 : Option U) (s0 : Stk) (i : Nat) (ρ : Env) (s : Stk) : Prop :=
  ∃ tt : Option U, ρ = [a0, a1, a2, some (.d (.str LT)), some (.d (.str SG)), some (.d (nsD ns)), a6, some (.d (.int (0 + (j : Int)))), some (.d (.str (lt0 ns j :: tl ns j i))), tt] ∧ s = s0
theorem word_step (cl : Nat → List U → Stk → RE U) (ns : List Int) (j : Nat) (hj : 3 * j + 2 < ns.length) (a0 a1 a2 a6 : Option U) (s0 : Stk) (i : Nat) (hi : i ≤ 11) (ρ : Env) (s : Stk) (h : InvW ns j a0 a1 a2 a6 s0 i ρ s) :
    ∃ ρ' s', ((fun x ρ s => RS.of (RE.of (bindT (.name 9) x ρ) s) fun ρ1 s => evSs P cl (match l__law_names_1 with | .for _ _ b => b | _ => []) ρ1 s) (Im.one (.d (.int (0 + (i : Int))))) ρ s = .nx ρ' s') ∧ InvW ns j a0 a1 a2 a6 s0 (i + 1) ρ' s' := by
  obtain ⟨tt, rfl, rfl⟩ := h
  have m1 : ∀ c : Int, intOp .mul 3 c = some (3 * c) := fun c => op_mul _ _ (mul_l _ _ (by decide) (by decide))
  have m2 : ∀ c : Int, intOp .mul 7 c = some (7 * c) := fun c => op_mul _ _ (mul_l _ _ (by decide) (by decide))
  have d1 : ∀ c : Int, intOp .mod c 36 = some (c % 36) := fun c => op_mod _ _ (by decide)
  have n1 : ixU s (.d (nsD ns)) (.d (.int (3 * (0 + (j : Int)) + 2))) = some (.d (.int (nsAt ns (3 * j + 2)))) := ix_ns _ _ _ _ (by omega) hj
  have n2 : atI SG ((nsAt ns (3 * j + 2) + 7 * (0 + (i : Int))) % 36) = some (sgn ns j i) := at_getD _ _ _ (by omega) (by show _ < (36 : Int); omega)
  have n3 : ∀ c, binU .val .add s (.d (.str (lt0 ns j :: tl ns j i))) (.d (.str [c])) = .ok (.d (.str ((lt0 ns j :: tl ns j i) ++ [c]))) s := fun c => binS _ _ _ (by simp [tl_len]; omega)
  simp -implicitDefEqProofs only [l__law_names_1, unlock_nx_mk, unlock_ret_mk, evSs, evS_set, evS_par, evS_aug, evS_exp, evS_ret, evS_retN, evS_ife, evS_raise, evS_setix, evS_setfld, evS_try, evS_cont, evS_brk, evS_pass, evE, evEs, evC, evI, evO, RE.bind_ok, RE.bind_ex, RE.blk_ok, RE.of_some, RE.of_none, binI, op_add, op_sub, RS.unlock_nx, RS.unlock_ret, RS.unlock_ex, RS.of_ok, RS.of_ex, RS.seq_nx, RS.seq_ret, RS.seq_ex, RS.seq_cnt, RS.turn_nx, RS.turn_cnt, RS.turn_ret, RS.turn_ex, getV_0, getV_s, set_0, set_s, ewipe_nil, ewipe_cons, truth_bl, truth_int, truth_lst, truth_non, isTy, len_str, len_lst, len_tup, leI, ltI, gtI, geI, eqI, neI, eqS, neS, ltS, leS, inSign, ninSign, isN_non, isnN_non, isN_int, isnN_int, isB, isnB, fin_ret, fin_nx, fin_ex, fin_cond, seq_cond, turn_cond, cond_ok, cond_bl, cond_f, cond_t, cond_ft, cond_or', cond_and', zip_lst, slc_lst, slc_str, ix_lst, ix_tup, ix_str, at_0, unlock_lock, unlock_same, unlock_mk, lock_nil, mkEnv_cons, mkEnv_nil_0, mkEnv_nil_s, Nat.reduceSub, Nat.sub_self, Nat.reduceAdd, Nat.add_zero, beq_self_eq_true, Bool.not_true, Bool.not_false, cond_true, cond_false, bind_name, bind_two_one, bind_two_many, asInt, List.map_cons, List.map_nil, Bool.or_true, Bool.true_or, Bool.or_false, Bool.false_or, Bool.and_true, Bool.true_and, Bool.and_false, Bool.false_and, walk_lst, walk_tup, walk_str, lkOf_d, List.map_map, Function.comp_def, reduceCtorEq, ix_scr, len_scr, int_int, int_bl, tyS_l, tyS_b, tyS_i, Option.map_some, lstOf_lst, mkL_cell0, alloc_0, m1, m2, d1, n1, n2, n3]
  exact ⟨_, _, rfl, _, by rw [tl_succ]; rfl, rfl⟩
theorem word_loop (cl : Nat → List U → Stk → RE U) (ns : List Int) (j : Nat) (hj : 3 * j + 2 < ns.length) (a0 a1 a2 a6 tt : Option U) (rs : List (List Cell)) :
    ∃ tt', evS P cl l__law_names_1 [a0, a1, a2, some (.d (.str LT)), some (.d (.str SG)), some (.d (nsD ns)), a6, some (.d (.int (0 + (j : Int)))), some (.d (.str [lt0 ns j])), tt] ⟨rs, []⟩ = .nx [a0, a1, a2, some (.d (.str LT)), some (.d (.str SG)), some (.d (nsD ns)), a6, some (.d (.int (0 + (j : Int)))), some (.d (.str (word ns j))), tt'] ⟨rs, []⟩ := by
  have m1 : ∀ c : Int, intOp .mul 3 c = some (3 * c) := fun c => op_mul _ _ (mul_l _ _ (by decide) (by decide))
  have m2 : ∀ (c : Int) (b : Bool), intOp .mul c (if b = true then 1 else 0) = some (c * (if b = true then 1 else 0)) := fun c b => op_mul _ _ (mul_r _ _ (by split <;> decide) (by split <;> decide))
  have d1 : ∀ c : Int, intOp .mod c 12 = some (c % 12) := fun c => op_mod _ _ (by decide)
  have d2 : ∀ c : Int, intOp .mod c 3 = some (c % 3) := fun c => op_mod _ _ (by decide)
  have n1 : ∀ s, ixU s (.d (nsD ns)) (.d (.int (3 * (0 + (j : Int)) + 1))) = some (.d (.int (nsAt ns (3 * j + 1)))) := fun s => ix_ns _ _ _ _ (by omega) (by omega)
  have n2 : ∀ s, ixU s (.d (nsD ns)) (.d (.int (3 * (0 + (j : Int)) + 2))) = some (.d (.int (nsAt ns (3 * j + 2)))) := fun s => ix_ns _ _ _ _ (by omega) hj
  rw [show l__law_names_1 = .for (.name 9) (match l__law_names_1 with | .for _ i _ => i | _ => .rng1 (.var 0)) (match l__law_names_1 with | .for _ _ b => b | _ => []) from rfl, evS_for]
  have e1 : ∀ ρ9, evI P cl (match l__law_names_1 with | .for _ i _ => i | _ => .rng1 (.var 0)) [a0, a1, a2, some (.d (.str LT)), some (.d (.str SG)), some (.d (nsD ns)), a6, some (.d (.int (0 + (j : Int)))), some (.d (.str [lt0 ns j])), ρ9] ⟨rs, []⟩ = .ok ((List.range (lenW ns j)).map fun (i : Nat) => Im.one (.d (.int (0 + i))), []) ⟨rs, []⟩ := by
    intro ρ9
    simp -implicitDefEqProofs only [l__law_names_1, unlock_nx_mk, unlock_ret_mk, evSs, evS_set, evS_par, evS_aug, evS_exp, evS_ret, evS_retN, evS_ife, evS_raise, evS_setix, evS_setfld, evS_try, evS_cont, evS_brk, evS_pass, evE, evEs, evC, evI, evO, RE.bind_ok, RE.bind_ex, RE.blk_ok, RE.of_some, RE.of_none, binI, op_add, op_sub, RS.unlock_nx, RS.unlock_ret, RS.unlock_ex, RS.of_ok, RS.of_ex, RS.seq_nx, RS.seq_ret, RS.seq_ex, RS.seq_cnt, RS.turn_nx, RS.turn_cnt, RS.turn_ret, RS.turn_ex, getV_0, getV_s, set_0, set_s, ewipe_nil, ewipe_cons, truth_bl, truth_int, truth_lst, truth_non, isTy, len_str, len_lst, len_tup, leI, ltI, gtI, geI, eqI, neI, eqS, neS, ltS, leS, inSign, ninSign, isN_non, isnN_non, isN_int, isnN_int, isB, isnB, fin_ret, fin_nx, fin_ex, fin_cond, seq_cond, turn_cond, cond_ok, cond_bl, cond_f, cond_t, cond_ft, cond_or', cond_and', zip_lst, slc_lst, slc_str, ix_lst, ix_tup, ix_str, at_0, unlock_lock, unlock_same, unlock_mk, lock_nil, mkEnv_cons, mkEnv_nil_0, mkEnv_nil_s, Nat.reduceSub, Nat.sub_self, Nat.reduceAdd, Nat.add_zero, beq_self_eq_true, Bool.not_true, Bool.not_false, cond_true, cond_false, bind_name, bind_two_one, bind_two_many, asInt, List.map_cons, List.map_nil, Bool.or_true, Bool.true_or, Bool.or_false, Bool.false_or, Bool.and_true, Bool.true_and, Bool.and_false, Bool.false_and, walk_lst, walk_tup, walk_str, lkOf_d, List.map_map, Function.comp_def, reduceCtorEq, ix_scr, len_scr, int_int, int_bl, tyS_l, tyS_b, tyS_i, Option.map_some, lstOf_lst, mkL_cell0, alloc_0, m1, m2, d1, d2, n1, n2]
    rw [lenW_eq, rng1_nat _ (Nat.le_trans (lenW_le ns j) (by decide))]
    rfl
  rw [e1]
  simp only [RS.of_ok, lock_nil]
  obtain ⟨ρ', s', e, tt', e2, e3⟩ := forL_inv (F := fun x ρ s => RS.of (RE.of (bindT (.name 9) x ρ) s) fun ρ1 s => evSs P cl (match l__law_names_1 with | .for _ _ b => b | _ => []) ρ1 s) (fun (i : Nat) => Im.one (.d (.int (0 + (i : Int))))) (InvW ns j a0 a1 a2 a6 ⟨rs, []⟩) (List.range (lenW ns j)) 0 _ _ ⟨tt, rfl, rfl⟩ fun i x ρ s hx hi => by
      obtain ⟨hx1, hx2⟩ := List.getElem?_eq_some_iff.mp hx
      rw [List.getElem_range] at hx2
      subst hx2
      rw [List.length_range] at hx1
      rw [Nat.zero_add] at hi ⊢
      obtain ⟨ρ', s', e, i'⟩ := word_step (P := P) cl ns j hj a0 a1 a2 a6 ⟨rs, []⟩ i (by have := lenW_le ns j; omega) ρ s hi
      exact ⟨ρ', s', .inl e, i'⟩
  subst e2 e3
  rw [List.length_range, Nat.zero_add] at e
  exact ⟨tt', by rw [show ([lt0 ns j] : S) = lt0 ns j :: tl ns j 0 from rfl, e]; rfl⟩
/-- a word put into the dict of words -/
def addW (ws : List S) (w : S) : List S := if w ∈ ws then ws else ws ++ [w]
def words (ns : List Int) : Nat → List S
  | 0 => []
  | j + 1 => addW (words ns j) (word ns j)
theorem addW_nd {ws : List S} {w : S} (h : ws.Nodup) : (addW ws w).Nodup := by
  rw [addW]; split
  · exact h
  · rename_i q
    exact List.nodup_append.mpr ⟨h, by simp, fun a ha b hb e => by simp at hb; subst hb e; exact q ha⟩
theorem words_nd (ns : List Int) : ∀ j, (words ns j).Nodup
  | 0 => List.nodup_nil
  | j + 1 => addW_nd (words_nd ns j)
theorem words_len (ns : List Int) : ∀ j, (words ns j).length ≤ j ∧ (0 < j → 0 < (words ns j).length)
  | 0 => ⟨Nat.le_refl 0, fun h => absurd h (by omega)⟩
  | j + 1 => by
    have := words_len ns j
    rw [words, addW]; split
    · rename_i q
      exact ⟨by omega, fun _ => List.length_pos_of_mem q⟩
    · simp; omega
theorem LT_low : ∀ i, i < 26 → isLow (LT.getD i 97) = true := by decide
theorem SG_ok : ∀ i, i < 36 → (isLow (SG.getD i 97) || isFig (SG.getD i 97)) = true := by decide
theorem word_name (ns : List Int) (j : Nat) : nameS (word ns j) = true := by
  have h0 : isLow (lt0 ns j) = true := LT_low _ (by omega)
  have h1 : ∀ c ∈ tl ns j (lenW ns j), (isLow c || isFig c) = true := fun c hc => by
    obtain ⟨t, _, rfl⟩ := List.mem_map.mp hc
    exact SG_ok _ (by omega)
  have h2 : (tl ns j (lenW ns j)).length < 12 := by rw [tl_len]; have := lenW_le ns j; omega
  simp only [word, nameS, decide_eq_true h2, h0, Bool.true_and, List.all_cons, Bool.true_or, List.all_eq_true]
  exact h1
theorem words_name (ns : List Int) : ∀ j, ∀ w ∈ words ns j, nameS w = true
  | 0, w, h => by cases h
  | j + 1, w, h => by
    rw [words, addW] at h
    split at h
    · exact words_name ns j w h
    · rcases List.mem_append.mp h with h | h
      · exact words_name ns j w h
      · rw [List.mem_singleton.mp h]; exact word_name ns j
end Z
end

section
set_option autoImplicit false
set_option linter.all false
set_option maxRecDepth 100000
namespace Z
open Z.Law
variable {P : Pg}
theorem putK_words (u : U) (w : S) : ∀ ws : List S, putK (ws.map Ky.s) (ws.map fun _ => u) (.s w) u = ((addW ws w).map Ky.s, (addW ws w).map fun _ => u)
  | [] => rfl
  | x :: ws => by
    rw [List.map_cons, List.map_cons, putK, putK_words u w ws]
    by_cases h : w = x
    · subst h
      rw [if_pos rfl, addW, if_pos (List.mem_cons_self ..)]; rfl
    · rw [if_neg (fun e => h (by injection e))]
      by_cases q : w ∈ ws
      · rw [addW, addW, if_pos q, if_pos (List.mem_cons_of_mem _ q)]; rfl
      · rw [addW, addW, if_neg q, if_neg (fun e => by
          rcases List.mem_cons.mp e with e | e
          · exact h e
          · exact q e)]; rfl
theorem set_topK (ks : List Ky) (vs : List U) (r : List Cell) (rs : List (List Cell)) (w : S) (x : D) (h : ks.length < 16777216) : updC ⟨(.dct ks vs :: r) :: rs, []⟩ (.r rs.length 0) (setixC (.d (.str w)) (.d x)) [.d x] = .ok () ⟨(.dct (putK ks vs (.s w) (.d x)).1 (putK ks vs (.s w) (.d x)).2 :: r) :: rs, []⟩ := by
  have e : setixC (.d (.str w)) (.d x) (.dct ks vs) = some (.dct (putK ks vs (.s w) (.d x)).1 (putK ks vs (.s w) (.d x)).2) := by
    simp only [setixC, kyOf, big, if_pos h]
  simp only [updC, List.contains_nil, get_top, e, List.all_cons, List.all_nil, U.below, Bool.and_true, if_true, Stk.set, set_top]
  rfl
theorem list_topK (ws : List S) (us : List U) (r : List Cell) (rs : List (List Cell)) (h : ∀ w ∈ ws, w.length ≤ 16777216) : bty .val .list ⟨(.dct (ws.map .s) us :: r) :: rs, []⟩ [.r rs.length 0] = .ok (.d (.lst (ws.map .str))) ⟨(.dct (ws.map .s) us :: r) :: rs, []⟩ := by
  have e : (ws.map Ky.s).all kyLen = true := by
    rw [List.all_map, List.all_eq_true]
    intro w hw
    exact decide_eq_true (h w hw)
  simp only [bty, lstOf, tupOf, asStr, dctOf, get_top, e, if_true, List.map_map]
  rw [show ((fun k => U.d (dkey k)) ∘ Ky.s) = (U.d ∘ D.str) from rfl, ← List.map_map, mkL_d]
def InvM (scr : List Int) (n count : Int) (ns : List Int) (rs : List (List Cell)) (i : Nat) (ρ : Env) (s : Stk) : Prop :=
  ∃ a b c : Option U, ρ = [some (.d (.scr scr)), some (.d (.int n)), some (.d (.int count)), some (.d (.str LT)), some (.d (.str SG)), some (.d (nsD ns)), some (.r rs.length 0), a, b, c] ∧ s = ⟨[.dct ((words ns i).map .s) ((words ns i).map fun _ => .d (.bl true))] :: rs, []⟩
theorem names_step (cl : Nat → List U → Stk → RE U) (scr : List Int) (n count : Int) (ns : List Int) (rs : List (List Cell)) (j : Nat) (hj : 3 * j + 2 < ns.length) (hn : ns.length ≤ 1000) (ρ : Env) (s : Stk) (h : InvM scr n count ns rs j ρ s) :
    ∃ ρ' s', ((fun x ρ s => RS.of (RE.of (bindT (.name 7) x ρ) s) fun ρ1 s => evSs P cl (match l__law_names_0 with | .for _ _ b => b | _ => []) ρ1 s) (Im.one (.d (.int (0 + (j : Int))))) ρ s = .nx ρ' s') ∧ InvM scr n count ns rs (j + 1) ρ' s' := by
  obtain ⟨a, b, c, rfl, rfl⟩ := h
  have m1 : ∀ c : Int, intOp .mul 3 c = some (3 * c) := fun c => op_mul _ _ (mul_l _ _ (by decide) (by decide))
  have d1 : ∀ c : Int, intOp .mod c 26 = some (c % 26) := fun c => op_mod _ _ (by decide)
  have n1 : ∀ s, ixU s (.d (nsD ns)) (.d (.int (3 * (0 + (j : Int))))) = some (.d (.int (nsAt ns (3 * j)))) := fun s => ix_ns _ _ _ _ (by omega) (by omega)
  have n2 : atI LT (nsAt ns (3 * j) % 26) = some (lt0 ns j) := at_getD _ _ _ (by omega) (by show _ < (26 : Int); omega)
  obtain ⟨tt', e1⟩ := word_loop (P := P) cl ns j hj (some (.d (.scr scr))) (some (.d (.int n))) (some (.d (.int count))) (some (.r rs.length 0)) c ([.dct ((words ns j).map .s) ((words ns j).map fun _ => .d (.bl true))] :: rs)
  have e2 : ((words ns j).map Ky.s).length < 16777216 := by rw [List.length_map]; have := (words_len ns j).1; omega
  simp -implicitDefEqProofs only [l__law_names_0, unlock_nx_mk, unlock_ret_mk, evSs, evS_set, evS_par, evS_aug, evS_exp, evS_ret, evS_retN, evS_ife, evS_raise, evS_setix, evS_setfld, evS_try, evS_cont, evS_brk, evS_pass, evE, evEs, evC, evI, evO, RE.bind_ok, RE.bind_ex, RE.blk_ok, RE.of_some, RE.of_none, binI, op_add, op_sub, RS.unlock_nx, RS.unlock_ret, RS.unlock_ex, RS.of_ok, RS.of_ex, RS.seq_nx, RS.seq_ret, RS.seq_ex, RS.seq_cnt, RS.turn_nx, RS.turn_cnt, RS.turn_ret, RS.turn_ex, getV_0, getV_s, set_0, set_s, ewipe_nil, ewipe_cons, truth_bl, truth_int, truth_lst, truth_non, isTy, len_str, len_lst, len_tup, leI, ltI, gtI, geI, eqI, neI, eqS, neS, ltS, leS, inSign, ninSign, isN_non, isnN_non, isN_int, isnN_int, isB, isnB, fin_ret, fin_nx, fin_ex, fin_cond, seq_cond, turn_cond, cond_ok, cond_bl, cond_f, cond_t, cond_ft, cond_or', cond_and', zip_lst, slc_lst, slc_str, ix_lst, ix_tup, ix_str, at_0, unlock_lock, unlock_same, unlock_mk, lock_nil, mkEnv_cons, mkEnv_nil_0, mkEnv_nil_s, Nat.reduceSub, Nat.sub_self, Nat.reduceAdd, Nat.add_zero, beq_self_eq_true, Bool.not_true, Bool.not_false, cond_true, cond_false, bind_name, bind_two_one, bind_two_many, asInt, List.map_cons, List.map_nil, Bool.or_true, Bool.true_or, Bool.or_false, Bool.false_or, Bool.and_true, Bool.true_and, Bool.and_false, Bool.false_and, walk_lst, walk_tup, walk_str, lkOf_d, List.map_map, Function.comp_def, reduceCtorEq, ix_scr, len_scr, int_int, int_bl, tyS_l, tyS_b, tyS_i, Option.map_some, lstOf_lst, mkL_cell0, alloc_0, m1, d1, n1, n2, e1, set_topK _ _ _ _ _ _ e2, putK_words]
  exact ⟨_, _, rfl, _, _, _, rfl, rfl⟩
theorem words_short (ns : List Int) (j : Nat) : ∀ w ∈ words ns j, w.length ≤ 12 := fun w h => by
  have := words_name ns j w h
  cases w with
  | nil => simp
  | cons c r =>
    simp only [nameS, Bool.and_eq_true, decide_eq_true_eq] at this
    simp; omega
/-- _law_names -/
def names (scr : List Int) (n count : Nat) : List S := sortS (words (nums scr n 30) count)
theorem names_eq (hf : HF P) (scr : List Int) (n count : Nat) (hc : count ≤ 10) (k : Nat) (rs : List (List Cell)) :
    call P (k + 2) 170 [.d (.scr scr), .d (.int n), .d (.int count)] ⟨rs, []⟩ = .ok (.d (strD (names scr n count))) ⟨rs, []⟩ := by
  have e1 : call P (k + 1) 176 [.d (.scr scr), .d (.int n), .d (.int 30)] ⟨[] :: rs, []⟩ = _ := numbers_eq hf.toHG scr n 30 (by decide) k ([] :: rs)
  have e2 : ∀ s, binU .val .add s (.d (.str [97, 98, 99, 100, 101, 102, 103, 104, 105, 106, 107, 108, 109, 110, 111, 112, 113, 114, 115, 116, 117, 118, 119, 120, 121, 122])) (.d (.str [48, 49, 50, 51, 52, 53, 54, 55, 56, 57])) = .ok (.d (.str SG)) s := fun s => binS s _ _ (by decide)
  rw [call_eq hf.names rfl]
  simp -implicitDefEqProofs only [f__law_names, unlock_nx_mk, unlock_ret_mk, evSs, evS_set, evS_par, evS_aug, evS_exp, evS_ret, evS_retN, evS_ife, evS_raise, evS_setix, evS_setfld, evS_try, evS_cont, evS_brk, evS_pass, evE, evEs, evC, evI, evO, RE.bind_ok, RE.bind_ex, RE.blk_ok, RE.of_some, RE.of_none, binI, op_add, op_sub, RS.unlock_nx, RS.unlock_ret, RS.unlock_ex, RS.of_ok, RS.of_ex, RS.seq_nx, RS.seq_ret, RS.seq_ex, RS.seq_cnt, RS.turn_nx, RS.turn_cnt, RS.turn_ret, RS.turn_ex, getV_0, getV_s, set_0, set_s, ewipe_nil, ewipe_cons, truth_bl, truth_int, truth_lst, truth_non, isTy, len_str, len_lst, len_tup, leI, ltI, gtI, geI, eqI, neI, eqS, neS, ltS, leS, inSign, ninSign, isN_non, isnN_non, isN_int, isnN_int, isB, isnB, fin_ret, fin_nx, fin_ex, fin_cond, seq_cond, turn_cond, cond_ok, cond_bl, cond_f, cond_t, cond_ft, cond_or', cond_and', zip_lst, slc_lst, slc_str, ix_lst, ix_tup, ix_str, at_0, unlock_lock, unlock_same, unlock_mk, lock_nil, mkEnv_cons, mkEnv_nil_0, mkEnv_nil_s, Nat.reduceSub, Nat.sub_self, Nat.reduceAdd, Nat.add_zero, beq_self_eq_true, Bool.not_true, Bool.not_false, cond_true, cond_false, bind_name, bind_two_one, bind_two_many, asInt, List.map_cons, List.map_nil, Bool.or_true, Bool.true_or, Bool.or_false, Bool.false_or, Bool.and_true, Bool.true_and, Bool.and_false, Bool.false_and, walk_lst, walk_tup, walk_str, lkOf_d, List.map_map, Function.comp_def, reduceCtorEq, ix_scr, len_scr, int_int, int_bl, tyS_l, tyS_b, tyS_i, Option.map_some, lstOf_lst, mkL_cell0, alloc_0, e1, e2]
  rw [show l__law_names_0 = .for (.name 7) (.rng1 (.var 2)) (match l__law_names_0 with | .for _ _ b => b | _ => []) from rfl, evS_for]
  simp -implicitDefEqProofs only [unlock_nx_mk, unlock_ret_mk, evSs, evS_set, evS_par, evS_aug, evS_exp, evS_ret, evS_retN, evS_ife, evS_raise, evS_setix, evS_setfld, evS_try, evS_cont, evS_brk, evS_pass, evE, evEs, evC, evI, evO, RE.bind_ok, RE.bind_ex, RE.blk_ok, RE.of_some, RE.of_none, binI, op_add, op_sub, RS.unlock_nx, RS.unlock_ret, RS.unlock_ex, RS.of_ok, RS.of_ex, RS.seq_nx, RS.seq_ret, RS.seq_ex, RS.seq_cnt, RS.turn_nx, RS.turn_cnt, RS.turn_ret, RS.turn_ex, getV_0, getV_s, set_0, set_s, ewipe_nil, ewipe_cons, truth_bl, truth_int, truth_lst, truth_non, isTy, len_str, len_lst, len_tup, leI, ltI, gtI, geI, eqI, neI, eqS, neS, ltS, leS, inSign, ninSign, isN_non, isnN_non, isN_int, isnN_int, isB, isnB, fin_ret, fin_nx, fin_ex, fin_cond, seq_cond, turn_cond, cond_ok, cond_bl, cond_f, cond_t, cond_ft, cond_or', cond_and', zip_lst, slc_lst, slc_str, ix_lst, ix_tup, ix_str, at_0, unlock_lock, unlock_same, unlock_mk, lock_nil, mkEnv_cons, mkEnv_nil_0, mkEnv_nil_s, Nat.reduceSub, Nat.sub_self, Nat.reduceAdd, Nat.add_zero, beq_self_eq_true, Bool.not_true, Bool.not_false, cond_true, cond_false, bind_name, bind_two_one, bind_two_many, asInt, List.map_cons, List.map_nil, Bool.or_true, Bool.true_or, Bool.or_false, Bool.false_or, Bool.and_true, Bool.true_and, Bool.and_false, Bool.false_and, walk_lst, walk_tup, walk_str, lkOf_d, List.map_map, Function.comp_def, reduceCtorEq, ix_scr, len_scr, int_int, int_bl, tyS_l, tyS_b, tyS_i, Option.map_some, lstOf_lst, mkL_cell0, alloc_0, rng1_nat count (Nat.le_trans hc (by decide))]
  have hl := nums_len scr n 30
  obtain ⟨v, hv⟩ : ∃ v, v = nums scr n 30 := ⟨_, rfl⟩
  rw [names, ← hv]
  rw [← hv] at hl
  obtain ⟨ρ', s', e, a, b, c, e3, e4⟩ := forL_inv (F := fun x ρ s => RS.of (RE.of (bindT (.name 7) x ρ) s) fun ρ1 s => evSs P (call P (k + 1)) (match l__law_names_0 with | .for _ _ b => b | _ => []) ρ1 s) (fun (i : Nat) => Im.one (.d (.int (0 + (i : Int))))) (InvM scr n count v rs) (List.range count) 0 [some (.d (.scr scr)), some (.d (.int n)), some (.d (.int count)), some (.d (.str LT)), some (.d (.str SG)), some (.d (nsD v)), some (.r rs.length 0), none, none, none] ⟨[.dct [] []] :: rs, []⟩ ⟨none, none, none, rfl, rfl⟩ fun i x ρ s hx hi => by
      obtain ⟨hx1, hx2⟩ := List.getElem?_eq_some_iff.mp hx
      rw [List.getElem_range] at hx2
      subst hx2
      rw [List.length_range] at hx1
      rw [Nat.zero_add] at hi ⊢
      obtain ⟨ρ', s', e, i'⟩ := names_step (P := P) (call P (k + 1)) scr n count v rs i (by omega) (by omega) ρ s hi
      exact ⟨ρ', s', .inl e, i'⟩
  rw [show ([97, 98, 99, 100, 101, 102, 103, 104, 105, 106, 107, 108, 109, 110, 111, 112, 113, 114, 115, 116, 117, 118, 119, 120, 121, 122] : S) = LT from rfl, e]
  subst e3 e4
  rw [List.length_range, Nat.zero_add]
  simp -implicitDefEqProofs only [unlock_nx_mk, unlock_ret_mk, evSs, evS_set, evS_par, evS_aug, evS_exp, evS_ret, evS_retN, evS_ife, evS_raise, evS_setix, evS_setfld, evS_try, evS_cont, evS_brk, evS_pass, evE, evEs, evC, evI, evO, RE.bind_ok, RE.bind_ex, RE.blk_ok, RE.of_some, RE.of_none, binI, op_add, op_sub, RS.unlock_nx, RS.unlock_ret, RS.unlock_ex, RS.of_ok, RS.of_ex, RS.seq_nx, RS.seq_ret, RS.seq_ex, RS.seq_cnt, RS.turn_nx, RS.turn_cnt, RS.turn_ret, RS.turn_ex, getV_0, getV_s, set_0, set_s, ewipe_nil, ewipe_cons, truth_bl, truth_int, truth_lst, truth_non, isTy, len_str, len_lst, len_tup, leI, ltI, gtI, geI, eqI, neI, eqS, neS, ltS, leS, inSign, ninSign, isN_non, isnN_non, isN_int, isnN_int, isB, isnB, fin_ret, fin_nx, fin_ex, fin_cond, seq_cond, turn_cond, cond_ok, cond_bl, cond_f, cond_t, cond_ft, cond_or', cond_and', zip_lst, slc_lst, slc_str, ix_lst, ix_tup, ix_str, at_0, unlock_lock, unlock_same, unlock_mk, lock_nil, mkEnv_cons, mkEnv_nil_0, mkEnv_nil_s, Nat.reduceSub, Nat.sub_self, Nat.reduceAdd, Nat.add_zero, beq_self_eq_true, Bool.not_true, Bool.not_false, cond_true, cond_false, bind_name, bind_two_one, bind_two_many, asInt, List.map_cons, List.map_nil, Bool.or_true, Bool.true_or, Bool.or_false, Bool.false_or, Bool.and_true, Bool.true_and, Bool.and_false, Bool.false_and, walk_lst, walk_tup, walk_str, lkOf_d, List.map_map, Function.comp_def, reduceCtorEq, ix_scr, len_scr, int_int, int_bl, tyS_l, tyS_b, tyS_i, Option.map_some, lstOf_lst, mkL_cell0, alloc_0, list_topK _ _ _ _ (fun w hw => Nat.le_trans (words_short v count w hw) (by decide)), sorted_str]
  rfl
theorem names_len (scr : List Int) (n count : Nat) : (names scr n count).length ≤ count ∧ (0 < count → 0 < (names scr n count).length) := by
  rw [names, (sortS_perm _).length_eq]
  exact words_len _ _
theorem names_lt (scr : List Int) (n count : Nat) : (names scr n count).Pairwise (· < ·) := sortS_lt _ (words_nd _ _)
theorem names_name (scr : List Int) (n count : Nat) : ∀ w ∈ names scr n count, nameS w = true := fun w h => words_name _ _ w ((sortS_perm _).mem_iff.mp h)
end Z
end

section
set_option autoImplicit false
set_option linter.all false
set_option maxRecDepth 100000
namespace Z
open Z.Law
variable {P : Pg}
structure HI (P : Pg) : Prop extends HF P where
  hidden : P.fn 125 = some f__law_hidden_v1
/-- a pair of a number and a word -/
def isNW : D → Prop
  | .tup [.int _, .str _] => True
  | _ => False
theorem sorted_nw (s : Stk) (l : List D) (h : ∀ x ∈ l, isNW x) : bfun .val .sorted s [.d (.lst l)] = .ok (.d (.lst (sortD l))) s := by
  have ex : ∀ x, isNW x → ∃ i z, x = .tup [.int i, .str z] := fun x h => by
    unfold isNW at h
    split at h
    · exact ⟨_, _, rfl⟩
    · exact absurd h id
  have e1 : ∀ (n : Nat), ∀ l : List D, (∀ x ∈ l, isNW x) → pls (n + 2) l = true := fun n l => by
    induction l with
    | nil => intro _; simp [pls]
    | cons x l ih =>
      intro h
      obtain ⟨i, z, rfl⟩ := ex x (h x (List.mem_cons_self ..))
      rw [pls, ih fun y hy => h y (List.mem_cons_of_mem _ hy)]
      simp [pl, pls]
  have e2 : (l.all fun x => !x.isN && !x.isT0 && l.all fun y => alk x y) = true := by
    rw [List.all_eq_true]
    intro x hx
    obtain ⟨i, z, rfl⟩ := ex x (h x hx)
    simp only [D.isN, D.isT0, Bool.not_false, Bool.true_and, List.all_eq_true]
    intro y hy
    obtain ⟨i, z, rfl⟩ := ex y (h y hy)
    simp [alk, alks]
  have e3 : noMix l = true := by
    rw [noMix, Bool.or_eq_true]
    left
    rw [List.all_eq_true]
    intro x hx
    obtain ⟨i, z, rfl⟩ := ex x (h x hx)
    rfl
  simp only [bfun, lstOf, pus_d, sortable, show pls dp l = true from e1 38 l h, e2, e3, Bool.and_self, if_true, mkL_d]
def pairsD (ns : List Int) (gs : List S) : List D := (List.range gs.length).map fun j => .tup [.int (nsAt ns (2 + j)), .str (gs.getD j [])]
def sndW : D → S
  | .tup [_, .str b] => b
  | _ => []
def hidden (scr : List Int) (n : Nat) (gs : List S) : List S := (sortD (pairsD (nums scr n 10) gs)).map sndW
theorem sortD_perm (l : List D) : (sortD l).Perm l := List.mergeSort_perm l _
theorem map_getD (gs : List S) : (List.range gs.length).map (fun j => gs.getD j []) = gs := by
  apply List.ext_getElem
  · simp
  · intro i h1 h2
    simp [List.getD, List.getElem?_eq_getElem h2]
theorem hidden_perm (scr : List Int) (n : Nat) (gs : List S) : (hidden scr n gs).Perm gs := by
  have := (sortD_perm (pairsD (nums scr n 10) gs)).map sndW
  rw [pairsD, List.map_map] at this
  rw [show (sndW ∘ fun j => D.tup [.int (nsAt (nums scr n 10) (2 + j)), .str (gs.getD j [])]) = (fun j => gs.getD j []) from rfl, map_getD] at this
  exact this
theorem pairs_nw (ns : List Int) (gs : List S) : ∀ x ∈ pairsD ns gs, isNW x := fun x h => by
  obtain ⟨j, _, rfl⟩ := List.mem_map.mp h
  exact trivial
theorem hidden_eq (hi : HI P) (scr : List Int) (n : Nat) (gs : List S) (hg : gs.length ≤ 8) (k : Nat) (rs : List (List Cell)) :
    call P (k + 2) 125 [.d (.scr scr), .d (.int n), .d (strD gs)] ⟨rs, []⟩ = .ok (.d (strD (hidden scr n gs))) ⟨rs, []⟩ := by
  have e1 : call P (k + 1) 176 [.d (.scr scr), .d (.int n), .d (.int 10)] ⟨[] :: rs, []⟩ = _ := numbers_eq hi.toHG scr n 10 (by decide) k ([] :: rs)
  rw [call_eq hi.hidden rfl]
  have hl := nums_len scr n 10
  rw [hidden]
  obtain ⟨v, hv⟩ : ∃ v, v = nums scr n 10 := ⟨_, rfl⟩
  rw [← hv] at hl e1 ⊢
  have e2 : ∀ s, bfun .val .len s [.d (strD gs)] = .ok (.d (.int (gs.length : Nat))) s := fun s => by rw [strD, len_lst, List.length_map]
  simp -implicitDefEqProofs only [f__law_hidden_v1, unlock_nx_mk, unlock_ret_mk, evSs, evS_set, evS_par, evS_aug, evS_exp, evS_ret, evS_retN, evS_ife, evS_raise, evS_setix, evS_setfld, evS_try, evS_cont, evS_brk, evS_pass, evE, evEs, evC, evI, evO, RE.bind_ok, RE.bind_ex, RE.blk_ok, RE.of_some, RE.of_none, binI, op_add, op_sub, RS.unlock_nx, RS.unlock_ret, RS.unlock_ex, RS.of_ok, RS.of_ex, RS.seq_nx, RS.seq_ret, RS.seq_ex, RS.seq_cnt, RS.turn_nx, RS.turn_cnt, RS.turn_ret, RS.turn_ex, getV_0, getV_s, set_0, set_s, ewipe_nil, ewipe_cons, truth_bl, truth_int, truth_lst, truth_non, isTy, len_str, len_lst, len_tup, leI, ltI, gtI, geI, eqI, neI, eqS, neS, ltS, leS, inSign, ninSign, isN_non, isnN_non, isN_int, isnN_int, isB, isnB, fin_ret, fin_nx, fin_ex, fin_cond, seq_cond, turn_cond, cond_ok, cond_bl, cond_f, cond_t, cond_ft, cond_or', cond_and', zip_lst, slc_lst, slc_str, ix_lst, ix_tup, ix_str, at_0, unlock_lock, unlock_same, unlock_mk, lock_nil, mkEnv_cons, mkEnv_nil_0, mkEnv_nil_s, Nat.reduceSub, Nat.sub_self, Nat.reduceAdd, Nat.add_zero, beq_self_eq_true, Bool.not_true, Bool.not_false, cond_true, cond_false, bind_name, bind_two_one, bind_two_many, asInt, List.map_cons, List.map_nil, Bool.or_true, Bool.true_or, Bool.or_false, Bool.false_or, Bool.and_true, Bool.true_and, Bool.and_false, Bool.false_and, walk_lst, walk_tup, walk_str, lkOf_d, List.map_map, Function.comp_def, reduceCtorEq, ix_scr, len_scr, int_int, int_bl, tyS_l, tyS_b, tyS_i, Option.map_some, lstOf_lst, mkL_cell0, alloc_0, e1, e2, rng1_nat gs.length (Nat.le_trans hg (by decide))]
  rw [compL_map (h := fun (i : Nat) => Im.one (.d (.int (0 + i)))) (g := fun j => .d (.tup [.int (nsAt v (2 + j)), .str (gs.getD j [])])) (fun j hj => by
    have hj' := List.mem_range.mp hj
    have n1 : ∀ s, ixU s (.d (nsD v)) (.d (.int (2 + (0 + (j : Int))))) = some (.d (.int (nsAt v (2 + j)))) := fun s => ix_ns _ _ _ _ (by omega) (by omega)
    have n2 : ∀ s, ixU s (.d (strD gs)) (.d (.int (0 + (j : Int)))) = some (.d (.str (gs.getD j []))) := fun s => by
      rw [strD, ix_lst, List.map_map, atI_map, show (0 + (j : Int)) = (j : Nat) by omega, atI_nat, List.getElem?_eq_getElem hj']
      simp [List.getD, List.getElem?_eq_getElem hj']
    simp -implicitDefEqProofs only [unlock_nx_mk, unlock_ret_mk, evSs, evS_set, evS_par, evS_aug, evS_exp, evS_ret, evS_retN, evS_ife, evS_raise, evS_setix, evS_setfld, evS_try, evS_cont, evS_brk, evS_pass, evE, evEs, evC, evI, evO, RE.bind_ok, RE.bind_ex, RE.blk_ok, RE.of_some, RE.of_none, binI, op_add, op_sub, RS.unlock_nx, RS.unlock_ret, RS.unlock_ex, RS.of_ok, RS.of_ex, RS.seq_nx, RS.seq_ret, RS.seq_ex, RS.seq_cnt, RS.turn_nx, RS.turn_cnt, RS.turn_ret, RS.turn_ex, getV_0, getV_s, set_0, set_s, ewipe_nil, ewipe_cons, truth_bl, truth_int, truth_lst, truth_non, isTy, len_str, len_lst, len_tup, leI, ltI, gtI, geI, eqI, neI, eqS, neS, ltS, leS, inSign, ninSign, isN_non, isnN_non, isN_int, isnN_int, isB, isnB, fin_ret, fin_nx, fin_ex, fin_cond, seq_cond, turn_cond, cond_ok, cond_bl, cond_f, cond_t, cond_ft, cond_or', cond_and', zip_lst, slc_lst, slc_str, ix_lst, ix_tup, ix_str, at_0, unlock_lock, unlock_same, unlock_mk, lock_nil, mkEnv_cons, mkEnv_nil_0, mkEnv_nil_s, Nat.reduceSub, Nat.sub_self, Nat.reduceAdd, Nat.add_zero, beq_self_eq_true, Bool.not_true, Bool.not_false, cond_true, cond_false, bind_name, bind_two_one, bind_two_many, asInt, List.map_cons, List.map_nil, Bool.or_true, Bool.true_or, Bool.or_false, Bool.false_or, Bool.and_true, Bool.true_and, Bool.and_false, Bool.false_and, walk_lst, walk_tup, walk_str, lkOf_d, List.map_map, Function.comp_def, reduceCtorEq, ix_scr, len_scr, int_int, int_bl, tyS_l, tyS_b, tyS_i, Option.map_some, lstOf_lst, mkL_cell0, alloc_0, n1, n2, tupU_2])]
  simp -implicitDefEqProofs only [unlock_nx_mk, unlock_ret_mk, evSs, evS_set, evS_par, evS_aug, evS_exp, evS_ret, evS_retN, evS_ife, evS_raise, evS_setix, evS_setfld, evS_try, evS_cont, evS_brk, evS_pass, evE, evEs, evC, evI, evO, RE.bind_ok, RE.bind_ex, RE.blk_ok, RE.of_some, RE.of_none, binI, op_add, op_sub, RS.unlock_nx, RS.unlock_ret, RS.unlock_ex, RS.of_ok, RS.of_ex, RS.seq_nx, RS.seq_ret, RS.seq_ex, RS.seq_cnt, RS.turn_nx, RS.turn_cnt, RS.turn_ret, RS.turn_ex, getV_0, getV_s, set_0, set_s, ewipe_nil, ewipe_cons, truth_bl, truth_int, truth_lst, truth_non, isTy, len_str, len_lst, len_tup, leI, ltI, gtI, geI, eqI, neI, eqS, neS, ltS, leS, inSign, ninSign, isN_non, isnN_non, isN_int, isnN_int, isB, isnB, fin_ret, fin_nx, fin_ex, fin_cond, seq_cond, turn_cond, cond_ok, cond_bl, cond_f, cond_t, cond_ft, cond_or', cond_and', zip_lst, slc_lst, slc_str, ix_lst, ix_tup, ix_str, at_0, unlock_lock, unlock_same, unlock_mk, lock_nil, mkEnv_cons, mkEnv_nil_0, mkEnv_nil_s, Nat.reduceSub, Nat.sub_self, Nat.reduceAdd, Nat.add_zero, beq_self_eq_true, Bool.not_true, Bool.not_false, cond_true, cond_false, bind_name, bind_two_one, bind_two_many, asInt, List.map_cons, List.map_nil, Bool.or_true, Bool.true_or, Bool.or_false, Bool.false_or, Bool.and_true, Bool.true_and, Bool.and_false, Bool.false_and, walk_lst, walk_tup, walk_str, lkOf_d, List.map_map, Function.comp_def, reduceCtorEq, ix_scr, len_scr, int_int, int_bl, tyS_l, tyS_b, tyS_i, Option.map_some, lstOf_lst, mkL_cell0, alloc_0, mkL_map]
  rw [show ((List.range gs.length).map fun j => D.tup [.int (nsAt v (2 + j)), .str (gs.getD j [])]) = pairsD v gs from rfl]
  have e3 := pairs_nw v gs
  have e4 : ∀ x ∈ sortD (pairsD v gs), isNW x := fun x hx => e3 x ((sortD_perm _).mem_iff.mp hx)
  simp -implicitDefEqProofs only [unlock_nx_mk, unlock_ret_mk, evSs, evS_set, evS_par, evS_aug, evS_exp, evS_ret, evS_retN, evS_ife, evS_raise, evS_setix, evS_setfld, evS_try, evS_cont, evS_brk, evS_pass, evE, evEs, evC, evI, evO, RE.bind_ok, RE.bind_ex, RE.blk_ok, RE.of_some, RE.of_none, binI, op_add, op_sub, RS.unlock_nx, RS.unlock_ret, RS.unlock_ex, RS.of_ok, RS.of_ex, RS.seq_nx, RS.seq_ret, RS.seq_ex, RS.seq_cnt, RS.turn_nx, RS.turn_cnt, RS.turn_ret, RS.turn_ex, getV_0, getV_s, set_0, set_s, ewipe_nil, ewipe_cons, truth_bl, truth_int, truth_lst, truth_non, isTy, len_str, len_lst, len_tup, leI, ltI, gtI, geI, eqI, neI, eqS, neS, ltS, leS, inSign, ninSign, isN_non, isnN_non, isN_int, isnN_int, isB, isnB, fin_ret, fin_nx, fin_ex, fin_cond, seq_cond, turn_cond, cond_ok, cond_bl, cond_f, cond_t, cond_ft, cond_or', cond_and', zip_lst, slc_lst, slc_str, ix_lst, ix_tup, ix_str, at_0, unlock_lock, unlock_same, unlock_mk, lock_nil, mkEnv_cons, mkEnv_nil_0, mkEnv_nil_s, Nat.reduceSub, Nat.sub_self, Nat.reduceAdd, Nat.add_zero, beq_self_eq_true, Bool.not_true, Bool.not_false, cond_true, cond_false, bind_name, bind_two_one, bind_two_many, asInt, List.map_cons, List.map_nil, Bool.or_true, Bool.true_or, Bool.or_false, Bool.false_or, Bool.and_true, Bool.true_and, Bool.and_false, Bool.false_and, walk_lst, walk_tup, walk_str, lkOf_d, List.map_map, Function.comp_def, reduceCtorEq, ix_scr, len_scr, int_int, int_bl, tyS_l, tyS_b, tyS_i, Option.map_some, lstOf_lst, mkL_cell0, alloc_0, sorted_nw _ _ e3]
  rw [compL_map (h := fun x : D => Im.one (.d x)) (g := fun x => .d (.str (sndW x))) (fun x hx => by
    have := e4 x hx
    unfold isNW at this
    split at this
    · simp -implicitDefEqProofs only [unlock_nx_mk, unlock_ret_mk, evSs, evS_set, evS_par, evS_aug, evS_exp, evS_ret, evS_retN, evS_ife, evS_raise, evS_setix, evS_setfld, evS_try, evS_cont, evS_brk, evS_pass, evE, evEs, evC, evI, evO, RE.bind_ok, RE.bind_ex, RE.blk_ok, RE.of_some, RE.of_none, binI, op_add, op_sub, RS.unlock_nx, RS.unlock_ret, RS.unlock_ex, RS.of_ok, RS.of_ex, RS.seq_nx, RS.seq_ret, RS.seq_ex, RS.seq_cnt, RS.turn_nx, RS.turn_cnt, RS.turn_ret, RS.turn_ex, getV_0, getV_s, set_0, set_s, ewipe_nil, ewipe_cons, truth_bl, truth_int, truth_lst, truth_non, isTy, len_str, len_lst, len_tup, leI, ltI, gtI, geI, eqI, neI, eqS, neS, ltS, leS, inSign, ninSign, isN_non, isnN_non, isN_int, isnN_int, isB, isnB, fin_ret, fin_nx, fin_ex, fin_cond, seq_cond, turn_cond, cond_ok, cond_bl, cond_f, cond_t, cond_ft, cond_or', cond_and', zip_lst, slc_lst, slc_str, ix_lst, ix_tup, ix_str, at_0, unlock_lock, unlock_same, unlock_mk, lock_nil, mkEnv_cons, mkEnv_nil_0, mkEnv_nil_s, Nat.reduceSub, Nat.sub_self, Nat.reduceAdd, Nat.add_zero, beq_self_eq_true, Bool.not_true, Bool.not_false, cond_true, cond_false, bind_name, bind_two_one, bind_two_many, asInt, List.map_cons, List.map_nil, Bool.or_true, Bool.true_or, Bool.or_false, Bool.false_or, Bool.and_true, Bool.true_and, Bool.and_false, Bool.false_and, walk_lst, walk_tup, walk_str, lkOf_d, List.map_map, Function.comp_def, reduceCtorEq, ix_scr, len_scr, int_int, int_bl, tyS_l, tyS_b, tyS_i, Option.map_some, lstOf_lst, mkL_cell0, alloc_0, sndW]
      rfl
    · exact absurd this id)]
  simp -implicitDefEqProofs only [unlock_nx_mk, unlock_ret_mk, evSs, evS_set, evS_par, evS_aug, evS_exp, evS_ret, evS_retN, evS_ife, evS_raise, evS_setix, evS_setfld, evS_try, evS_cont, evS_brk, evS_pass, evE, evEs, evC, evI, evO, RE.bind_ok, RE.bind_ex, RE.blk_ok, RE.of_some, RE.of_none, binI, op_add, op_sub, RS.unlock_nx, RS.unlock_ret, RS.unlock_ex, RS.of_ok, RS.of_ex, RS.seq_nx, RS.seq_ret, RS.seq_ex, RS.seq_cnt, RS.turn_nx, RS.turn_cnt, RS.turn_ret, RS.turn_ex, getV_0, getV_s, set_0, set_s, ewipe_nil, ewipe_cons, truth_bl, truth_int, truth_lst, truth_non, isTy, len_str, len_lst, len_tup, leI, ltI, gtI, geI, eqI, neI, eqS, neS, ltS, leS, inSign, ninSign, isN_non, isnN_non, isN_int, isnN_int, isB, isnB, fin_ret, fin_nx, fin_ex, fin_cond, seq_cond, turn_cond, cond_ok, cond_bl, cond_f, cond_t, cond_ft, cond_or', cond_and', zip_lst, slc_lst, slc_str, ix_lst, ix_tup, ix_str, at_0, unlock_lock, unlock_same, unlock_mk, lock_nil, mkEnv_cons, mkEnv_nil_0, mkEnv_nil_s, Nat.reduceSub, Nat.sub_self, Nat.reduceAdd, Nat.add_zero, beq_self_eq_true, Bool.not_true, Bool.not_false, cond_true, cond_false, bind_name, bind_two_one, bind_two_many, asInt, List.map_cons, List.map_nil, Bool.or_true, Bool.true_or, Bool.or_false, Bool.false_or, Bool.and_true, Bool.true_and, Bool.and_false, Bool.false_and, walk_lst, walk_tup, walk_str, lkOf_d, List.map_map, Function.comp_def, reduceCtorEq, ix_scr, len_scr, int_int, int_bl, tyS_l, tyS_b, tyS_i, Option.map_some, lstOf_lst, mkL_cell0, alloc_0, mkL_map, strD]
end Z
end

section
set_option autoImplicit false
set_option linter.all false
set_option maxRecDepth 100000
namespace Z
open Z.Law
variable {P : Pg}
structure HJ (P : Pg) : Prop extends HI P where
  dig : P.fn 91 = some f__law_dig
section
variable (ns : List Int) (gs hid : List S) (j : Nat)
def firstI : Int := nsAt ns (10 + 2 * j) % (hid.length : Int)
def mem1 : List S := cut hid (some (firstI ns hid j)) (some (firstI ns hid j + 1 + nsAt ns (11 + 2 * j) % ((hid.length : Int) - firstI ns hid j)))
def oddW : S := gs.getD (nsAt ns (41 + j) % (gs.length : Int)).toNat []
def mem2 : List S := cond (nsAt ns 40 % 3 == 1 && nsAt ns (30 + j) % 3 == 0) (((mem1 ns hid j).filter fun x => !(x == oddW ns gs j)) ++ (if (!(mem1 ns hid j).contains (oddW ns gs j)) = true then [oddW ns gs j] else [])) (mem1 ns hid j)
def mem3 : List S := cond (nsAt ns 40 % 3 == 2) (((List.range gs.length).filter fun (k : Nat) => nsAt ns ((41 + 5 * (0 + (j : Int)) + (0 + (k : Int))) % 60).toNat % 2 == 0).map fun k => gs.getD k []) (mem2 ns gs hid j)
def mem4 : List S := cond (!(sortS (mem3 ns gs hid j)).isEmpty) (sortS (mem3 ns gs hid j)) [gs.getD 0 []]
def kindsF (nm : List S) (i : Nat) : List (S × List S) := (List.range i).map fun j => (nm.getD j [], mem4 ns gs hid j)
end
theorem mulL (s : Stk) (x : D) (b : Bool) : binU .val .mul s (.d (.lst [x])) (.d (.int (if b = true then 1 else 0))) = .ok (.d (.lst (if b = true then [x] else []))) s := by
  cases b <;> rfl
theorem addL (s : Stk) (a b : List D) (h : a.length + b.length ≤ 16777216) : binU .val .add s (.d (.lst a)) (.d (.lst b)) = .ok (.d (.lst (a ++ b))) s := by
  have e : (a.map U.d).length + (b.map U.d).length ≤ big := by simpa using h
  simp only [binU, asInt, asStr, binL, lstW, lstOf, if_pos e, ← List.map_append, mkL_d]
theorem cut_sub {α : Type} (l : List α) (a b : Option Int) : (cut l a b).Sublist l := (List.take_sublist _ _).trans (List.drop_sublist _ _)
theorem ix_strs (s : Stk) (gs : List S) (i : Int) (h0 : 0 ≤ i) (h1 : i < gs.length) : ixU s (.d (strD gs)) (.d (.int i)) = some (.d (.str (gs.getD i.toNat []))) := by
  rw [strD, ix_lst, List.map_map, atI_map, at_getD gs i [] h0 h1]; rfl
theorem len_strs (s : Stk) (gs : List S) : bfun .val .len s [.d (strD gs)] = .ok (.d (.int (gs.length : Nat))) s := by rw [strD, len_lst, List.length_map]
theorem slc_strs (s : Stk) (gs : List S) (a b : Option Int) : slcU .val s (.d (strD gs)) a b = .ok (.d (strD (cut gs a b))) s := by rw [strD, slc_lst, cut_map]; rfl
theorem nin_strs (s : Stk) (z : S) (gs : List S) : cmpU .nin s (.d (.str z)) (.d (strD gs)) = some (!gs.contains z) := ninStrs s z gs
theorem walk_strs (s : Stk) (gs : List S) : walkU s (.d (strD gs)) = some (gs.map fun z => .d (.str z)) := by rw [strD, walk_lst, List.map_map]; rfl
theorem sorted_strs (s : Stk) (gs : List S) : bfun .val .sorted s [.d (strD gs)] = .ok (.d (strD (sortS gs))) s := sorted_str s gs
theorem truth_strs (s : Stk) (gs : List S) : truth s (.d (strD gs)) = some (!gs.isEmpty) := by rw [strD, truth_lst]; cases gs <;> rfl
theorem add_strs (s : Stk) (a b : List S) (h : a.length + b.length ≤ 16777216) : binU .val .add s (.d (strD a)) (.d (strD b)) = .ok (.d (strD (a ++ b))) s := by
  rw [strD, strD, addL _ _ _ (by simpa using h), ← List.map_append]; rfl
theorem mul_strs (s : Stk) (x : S) (b : Bool) : binU .val .mul s (.d (.lst [.str x])) (.d (.int (if b = true then 1 else 0))) = .ok (.d (strD (if b = true then [x] else []))) s := by
  cases b <;> rfl
theorem mk_strs {α : Type} (s : Stk) (l : List α) (g : α → S) : mkL .val (l.map fun x => .d (.str (g x))) s = .ok (.d (strD (l.map g))) s := by
  rw [mkL_map, strD, List.map_map]; rfl
theorem mkL1 (s : Stk) (x : D) : mkL .val [.d x] s = .ok (.d (.lst [x])) s := rfl
def InvD (scr : List Int) (n most many : Int) (ns : List Int) (gs nm hid : List S) (rs : List (List Cell)) (i : Nat) (ρ : Env) (s : Stk) : Prop :=
  ∃ a b c d e f : Option U, ρ = [some (.d (.scr scr)), some (.d (.int n)), some (.d (.int most)), some (.d (.int many)), some (.d (nsD ns)), some (.d (strD gs)), some (.d (strD nm)), some (.d (strD hid)), some (.r rs.length 0), a, b, c, d, e, f] ∧ s = ⟨[.lst ((ksD (kindsF ns gs hid nm i)).map .d)] :: rs, []⟩
/-- the last two rows of the body -/
def digTail : List St := match l__law_dig_0 with
  | .for _ _ (_ :: _ :: _ :: b) => b
  | _ => []
theorem dig_tail (cl : Nat → List U → Stk → RE U) (scr : List Int) (n most many : Int) (ns : List Int) (gs nm hid : List S) (rs : List (List Cell)) (hl : ns.length = 60) (hp : hid.length = gs.length) (hg0 : 0 < gs.length) (hg : gs.length ≤ 8) (hnm : nm.length ≤ 10) (i : Nat) (hi : i < nm.length) (a b c d : Option U) :
    ∃ ρ' s', evSs P cl digTail [some (.d (.scr scr)), some (.d (.int n)), some (.d (.int most)), some (.d (.int many)), some (.d (nsD ns)), some (.d (strD gs)), some (.d (strD nm)), some (.d (strD hid)), some (.r rs.length 0), some (.d (.int (0 + (i : Int)))), a, some (.d (strD (mem2 ns gs hid i))), b, c, d] ⟨[.lst ((ksD (kindsF ns gs hid nm i)).map .d)] :: rs, []⟩ = .nx ρ' s' ∧ InvD scr n most many ns gs nm hid rs (i + 1) ρ' s' := by
  have m1 : ∀ c : Int, intOp .mul 2 c = some (2 * c) := fun c => op_mul _ _ (mul_l _ _ (by decide) (by decide))
  have m2 : ∀ c : Int, intOp .mul 5 c = some (5 * c) := fun c => op_mul _ _ (mul_l _ _ (by decide) (by decide))
  have d1 : ∀ c : Int, intOp .mod c (hid.length : Int) = some (c % (hid.length : Int)) := fun c => op_mod _ _ (by omega)
  have d2 : ∀ c : Int, intOp .mod c (gs.length : Int) = some (c % (gs.length : Int)) := fun c => op_mod _ _ (by omega)
  have d3 : ∀ c : Int, intOp .mod c 3 = some (c % 3) := fun c => op_mod _ _ (by decide)
  have d4 : ∀ c : Int, intOp .mod c 2 = some (c % 2) := fun c => op_mod _ _ (by decide)
  have d5 : ∀ c : Int, intOp .mod c 60 = some (c % 60) := fun c => op_mod _ _ (by decide)
  have f0 : 0 ≤ firstI ns hid i := Int.emod_nonneg _ (by omega)
  have f1 : firstI ns hid i < hid.length := Int.emod_lt_of_pos _ (by omega)
  have d6 : ∀ c : Int, intOp .mod c ((hid.length : Int) - firstI ns hid i) = some (c % ((hid.length : Int) - firstI ns hid i)) := fun c => op_mod _ _ (by omega)
  have n1 : ∀ s, ixU s (.d (nsD ns)) (.d (.int (10 + 2 * (0 + (i : Int))))) = some (.d (.int (nsAt ns (10 + 2 * i)))) := fun s => ix_ns _ _ _ _ (by omega) (by omega)
  have n2 : ∀ s, ixU s (.d (nsD ns)) (.d (.int (11 + 2 * (0 + (i : Int))))) = some (.d (.int (nsAt ns (11 + 2 * i)))) := fun s => ix_ns _ _ _ _ (by omega) (by omega)
  have n3 : ∀ s, ixU s (.d (nsD ns)) (.d (.int 40)) = some (.d (.int (nsAt ns 40))) := fun s => ix_ns _ _ _ 40 rfl (by omega)
  have n4 : ∀ s, ixU s (.d (nsD ns)) (.d (.int (30 + (0 + (i : Int))))) = some (.d (.int (nsAt ns (30 + i)))) := fun s => ix_ns _ _ _ _ (by omega) (by omega)
  have n5 : ∀ s, ixU s (.d (nsD ns)) (.d (.int (41 + (0 + (i : Int))))) = some (.d (.int (nsAt ns (41 + i)))) := fun s => ix_ns _ _ _ _ (by omega) (by omega)
  have g1 : ∀ s, ixU s (.d (strD gs)) (.d (.int (nsAt ns (41 + i) % (gs.length : Int)))) = some (.d (.str (oddW ns gs i))) := fun s => ix_strs _ _ _ (Int.emod_nonneg _ (by omega)) (Int.emod_lt_of_pos _ (by omega))
  have g2 : ∀ s, ixU s (.d (strD gs)) (.d (.int 0)) = some (.d (.str (gs.getD 0 []))) := fun s => ix_strs _ _ _ (by decide) (by omega)
  have g3 : ∀ s, ixU s (.d (strD nm)) (.d (.int (0 + (i : Int)))) = some (.d (.str (nm.getD i []))) := fun s => by
    rw [ix_strs _ _ _ (by omega) (by omega)]; simp
  have q1 : nsAt ns (10 + 2 * i) % (hid.length : Int) = firstI ns hid i := rfl
  have q2 : cut hid (some (firstI ns hid i)) (some (firstI ns hid i + 1 + nsAt ns (11 + 2 * i) % ((hid.length : Int) - firstI ns hid i))) = mem1 ns hid i := rfl
  have l1 : (mem1 ns hid i).length ≤ 8 := by have := (cut_sub hid (some (firstI ns hid i)) (some (firstI ns hid i + 1 + nsAt ns (11 + 2 * i) % ((hid.length : Int) - firstI ns hid i)))).length_le; rw [q2] at this; omega
  have hk : ((ksD (kindsF ns gs hid nm i)).map U.d).length < big := by simp [ksD, kindsF, big]; omega
  have end1 : ∀ a b c d, ∃ ρ' s', evSs P cl (digTail.drop 1) [some (.d (.scr scr)), some (.d (.int n)), some (.d (.int most)), some (.d (.int many)), some (.d (nsD ns)), some (.d (strD gs)), some (.d (strD nm)), some (.d (strD hid)), some (.r rs.length 0), some (.d (.int (0 + (i : Int)))), a, some (.d (strD (mem3 ns gs hid i))), b, c, d] ⟨[.lst ((ksD (kindsF ns gs hid nm i)).map .d)] :: rs, []⟩ = .nx ρ' s' ∧ InvD scr n most many ns gs nm hid rs (i + 1) ρ' s' := by
    intro a b c d
    have e4 : cond (!(sortS (mem3 ns gs hid i)).isEmpty) (U.d (strD (sortS (mem3 ns gs hid i)))) (U.d (.lst [.str (gs.getD 0 [])])) = U.d (strD (mem4 ns gs hid i)) := by
      rw [mem4]; cases (sortS (mem3 ns gs hid i)).isEmpty <;> rfl
    simp -implicitDefEqProofs only [digTail, l__law_dig_0, List.drop_succ_cons, List.drop_zero, unlock_nx_mk, unlock_ret_mk, evSs, evS_set, evS_par, evS_aug, evS_exp, evS_ret, evS_retN, evS_ife, evS_raise, evS_setix, evS_setfld, evS_try, evS_cont, evS_brk, evS_pass, evE, evEs, evC, evI, evO, RE.bind_ok, RE.bind_ex, RE.blk_ok, RE.of_some, RE.of_none, binI, op_add, op_sub, RS.unlock_nx, RS.unlock_ret, RS.unlock_ex, RS.of_ok, RS.of_ex, RS.seq_nx, RS.seq_ret, RS.seq_ex, RS.seq_cnt, RS.turn_nx, RS.turn_cnt, RS.turn_ret, RS.turn_ex, getV_0, getV_s, set_0, set_s, ewipe_nil, ewipe_cons, truth_bl, truth_int, truth_lst, truth_non, isTy, len_str, len_lst, len_tup, leI, ltI, gtI, geI, eqI, neI, eqS, neS, ltS, leS, inSign, ninSign, isN_non, isnN_non, isN_int, isnN_int, isB, isnB, fin_ret, fin_nx, fin_ex, fin_cond, seq_cond, turn_cond, cond_ok, cond_bl, cond_f, cond_t, cond_ft, cond_or', cond_and', zip_lst, slc_lst, slc_str, ix_lst, ix_tup, ix_str, at_0, unlock_lock, unlock_same, unlock_mk, lock_nil, mkEnv_cons, mkEnv_nil_0, mkEnv_nil_s, Nat.reduceSub, Nat.sub_self, Nat.reduceAdd, Nat.add_zero, beq_self_eq_true, Bool.not_true, Bool.not_false, cond_true, cond_false, bind_name, bind_two_one, bind_two_many, asInt, List.map_cons, List.map_nil, Bool.or_true, Bool.true_or, Bool.or_false, Bool.false_or, Bool.and_true, Bool.true_and, Bool.and_false, Bool.false_and, walk_lst, walk_tup, walk_str, lkOf_d, List.map_map, Function.comp_def, reduceCtorEq, ix_scr, len_scr, int_int, int_bl, tyS_l, tyS_b, tyS_i, Option.map_some, lstOf_lst, mkL_cell0, alloc_0, g3, sorted_strs, truth_strs, g2, mkL1, e4, tupU_2, bmOk_top, append_top _ _ _ _ hk]
    refine ⟨_, _, rfl, _, _, _, _, _, _, rfl, ?_⟩
    simp [kindsF, ksD, List.range_succ]
  rw [show digTail = (match digTail with | x :: _ => x | _ => .pass) :: digTail.drop 1 from rfl]
  obtain ⟨tl, htl⟩ : ∃ tl, tl = digTail.drop 1 := ⟨_, rfl⟩
  rw [← htl] at end1 ⊢
  have rg := rng1_nat gs.length (Nat.le_trans hg (by decide))
  simp -implicitDefEqProofs only [digTail, l__law_dig_0, unlock_nx_mk, unlock_ret_mk, evSs, evS_set, evS_par, evS_aug, evS_exp, evS_ret, evS_retN, evS_ife, evS_raise, evS_setix, evS_setfld, evS_try, evS_cont, evS_brk, evS_pass, evE, evEs, evC, evI, evO, RE.bind_ok, RE.bind_ex, RE.blk_ok, RE.of_some, RE.of_none, binI, op_add, op_sub, RS.unlock_nx, RS.unlock_ret, RS.unlock_ex, RS.of_ok, RS.of_ex, RS.seq_nx, RS.seq_ret, RS.seq_ex, RS.seq_cnt, RS.turn_nx, RS.turn_cnt, RS.turn_ret, RS.turn_ex, getV_0, getV_s, set_0, set_s, ewipe_nil, ewipe_cons, truth_bl, truth_int, truth_lst, truth_non, isTy, len_str, len_lst, len_tup, leI, ltI, gtI, geI, eqI, neI, eqS, neS, ltS, leS, inSign, ninSign, isN_non, isnN_non, isN_int, isnN_int, isB, isnB, fin_ret, fin_nx, fin_ex, fin_cond, seq_cond, turn_cond, cond_ok, cond_bl, cond_f, cond_t, cond_ft, cond_or', cond_and', zip_lst, slc_lst, slc_str, ix_lst, ix_tup, ix_str, at_0, unlock_lock, unlock_same, unlock_mk, lock_nil, mkEnv_cons, mkEnv_nil_0, mkEnv_nil_s, Nat.reduceSub, Nat.sub_self, Nat.reduceAdd, Nat.add_zero, beq_self_eq_true, Bool.not_true, Bool.not_false, cond_true, cond_false, bind_name, bind_two_one, bind_two_many, asInt, List.map_cons, List.map_nil, Bool.or_true, Bool.true_or, Bool.or_false, Bool.false_or, Bool.and_true, Bool.true_and, Bool.and_false, Bool.false_and, walk_lst, walk_tup, walk_str, lkOf_d, List.map_map, Function.comp_def, reduceCtorEq, ix_scr, len_scr, int_int, int_bl, tyS_l, tyS_b, tyS_i, Option.map_some, lstOf_lst, mkL_cell0, alloc_0, n3, d3, len_strs, rg]
  cases hc : nsAt ns 40 % 3 == 2 with
  | false =>
    have e5 : mem3 ns gs hid i = mem2 ns gs hid i := by rw [mem3, hc]; rfl
    rw [e5] at end1
    simp -implicitDefEqProofs only [unlock_nx_mk, unlock_ret_mk, evSs, evS_set, evS_par, evS_aug, evS_exp, evS_ret, evS_retN, evS_ife, evS_raise, evS_setix, evS_setfld, evS_try, evS_cont, evS_brk, evS_pass, evE, evEs, evC, evI, evO, RE.bind_ok, RE.bind_ex, RE.blk_ok, RE.of_some, RE.of_none, binI, op_add, op_sub, RS.unlock_nx, RS.unlock_ret, RS.unlock_ex, RS.of_ok, RS.of_ex, RS.seq_nx, RS.seq_ret, RS.seq_ex, RS.seq_cnt, RS.turn_nx, RS.turn_cnt, RS.turn_ret, RS.turn_ex, getV_0, getV_s, set_0, set_s, ewipe_nil, ewipe_cons, truth_bl, truth_int, truth_lst, truth_non, isTy, len_str, len_lst, len_tup, leI, ltI, gtI, geI, eqI, neI, eqS, neS, ltS, leS, inSign, ninSign, isN_non, isnN_non, isN_int, isnN_int, isB, isnB, fin_ret, fin_nx, fin_ex, fin_cond, seq_cond, turn_cond, cond_ok, cond_bl, cond_f, cond_t, cond_ft, cond_or', cond_and', zip_lst, slc_lst, slc_str, ix_lst, ix_tup, ix_str, at_0, unlock_lock, unlock_same, unlock_mk, lock_nil, mkEnv_cons, mkEnv_nil_0, mkEnv_nil_s, Nat.reduceSub, Nat.sub_self, Nat.reduceAdd, Nat.add_zero, beq_self_eq_true, Bool.not_true, Bool.not_false, cond_true, cond_false, bind_name, bind_two_one, bind_two_many, asInt, List.map_cons, List.map_nil, Bool.or_true, Bool.true_or, Bool.or_false, Bool.false_or, Bool.and_true, Bool.true_and, Bool.and_false, Bool.false_and, walk_lst, walk_tup, walk_str, lkOf_d, List.map_map, Function.comp_def, reduceCtorEq, ix_scr, len_scr, int_int, int_bl, tyS_l, tyS_b, tyS_i, Option.map_some, lstOf_lst, mkL_cell0, alloc_0]
    exact end1 _ _ _ _
  | true =>
    have e5 : mem3 ns gs hid i = ((List.range gs.length).filter fun (k : Nat) => nsAt ns ((41 + 5 * (0 + (i : Int)) + (0 + (k : Int))) % 60).toNat % 2 == 0).map fun k => gs.getD k [] := by rw [mem3, hc]; rfl
    rw [e5] at end1
    rw [compL_filter (h := fun (k : Nat) => Im.one (.d (.int (0 + (k : Int))))) (c := fun (k : Nat) => nsAt ns ((41 + 5 * (0 + (i : Int)) + (0 + (k : Int))) % 60).toNat % 2 == 0) (g := fun k => .str (gs.getD k [])) (fun k hk => by
      have hk' := List.mem_range.mp hk
      have n6 : ∀ s, ixU s (.d (nsD ns)) (.d (.int ((41 + 5 * (0 + (i : Int)) + (0 + (k : Int))) % 60))) = some (.d (.int (nsAt ns ((41 + 5 * (0 + (i : Int)) + (0 + (k : Int))) % 60).toNat))) := fun s => ix_ns _ _ _ _ (by omega) (by omega)
      have g4 : ∀ s, ixU s (.d (strD gs)) (.d (.int (0 + (k : Int)))) = some (.d (.str (gs.getD k []))) := fun s => by
        rw [ix_strs _ _ _ (by omega) (by omega)]; simp
      simp -implicitDefEqProofs only [unlock_nx_mk, unlock_ret_mk, evSs, evS_set, evS_par, evS_aug, evS_exp, evS_ret, evS_retN, evS_ife, evS_raise, evS_setix, evS_setfld, evS_try, evS_cont, evS_brk, evS_pass, evE, evEs, evC, evI, evO, RE.bind_ok, RE.bind_ex, RE.blk_ok, RE.of_some, RE.of_none, binI, op_add, op_sub, RS.unlock_nx, RS.unlock_ret, RS.unlock_ex, RS.of_ok, RS.of_ex, RS.seq_nx, RS.seq_ret, RS.seq_ex, RS.seq_cnt, RS.turn_nx, RS.turn_cnt, RS.turn_ret, RS.turn_ex, getV_0, getV_s, set_0, set_s, ewipe_nil, ewipe_cons, truth_bl, truth_int, truth_lst, truth_non, isTy, len_str, len_lst, len_tup, leI, ltI, gtI, geI, eqI, neI, eqS, neS, ltS, leS, inSign, ninSign, isN_non, isnN_non, isN_int, isnN_int, isB, isnB, fin_ret, fin_nx, fin_ex, fin_cond, seq_cond, turn_cond, cond_ok, cond_bl, cond_f, cond_t, cond_ft, cond_or', cond_and', zip_lst, slc_lst, slc_str, ix_lst, ix_tup, ix_str, at_0, unlock_lock, unlock_same, unlock_mk, lock_nil, mkEnv_cons, mkEnv_nil_0, mkEnv_nil_s, Nat.reduceSub, Nat.sub_self, Nat.reduceAdd, Nat.add_zero, beq_self_eq_true, Bool.not_true, Bool.not_false, cond_true, cond_false, bind_name, bind_two_one, bind_two_many, asInt, List.map_cons, List.map_nil, Bool.or_true, Bool.true_or, Bool.or_false, Bool.false_or, Bool.and_true, Bool.true_and, Bool.and_false, Bool.false_and, walk_lst, walk_tup, walk_str, lkOf_d, List.map_map, Function.comp_def, reduceCtorEq, ix_scr, len_scr, int_int, int_bl, tyS_l, tyS_b, tyS_i, Option.map_some, lstOf_lst, mkL_cell0, alloc_0, m2, d5, n6, d4, g4])]
    simp -implicitDefEqProofs only [unlock_nx_mk, unlock_ret_mk, evSs, evS_set, evS_par, evS_aug, evS_exp, evS_ret, evS_retN, evS_ife, evS_raise, evS_setix, evS_setfld, evS_try, evS_cont, evS_brk, evS_pass, evE, evEs, evC, evI, evO, RE.bind_ok, RE.bind_ex, RE.blk_ok, RE.of_some, RE.of_none, binI, op_add, op_sub, RS.unlock_nx, RS.unlock_ret, RS.unlock_ex, RS.of_ok, RS.of_ex, RS.seq_nx, RS.seq_ret, RS.seq_ex, RS.seq_cnt, RS.turn_nx, RS.turn_cnt, RS.turn_ret, RS.turn_ex, getV_0, getV_s, set_0, set_s, ewipe_nil, ewipe_cons, truth_bl, truth_int, truth_lst, truth_non, isTy, len_str, len_lst, len_tup, leI, ltI, gtI, geI, eqI, neI, eqS, neS, ltS, leS, inSign, ninSign, isN_non, isnN_non, isN_int, isnN_int, isB, isnB, fin_ret, fin_nx, fin_ex, fin_cond, seq_cond, turn_cond, cond_ok, cond_bl, cond_f, cond_t, cond_ft, cond_or', cond_and', zip_lst, slc_lst, slc_str, ix_lst, ix_tup, ix_str, at_0, unlock_lock, unlock_same, unlock_mk, lock_nil, mkEnv_cons, mkEnv_nil_0, mkEnv_nil_s, Nat.reduceSub, Nat.sub_self, Nat.reduceAdd, Nat.add_zero, beq_self_eq_true, Bool.not_true, Bool.not_false, cond_true, cond_false, bind_name, bind_two_one, bind_two_many, asInt, List.map_cons, List.map_nil, Bool.or_true, Bool.true_or, Bool.or_false, Bool.false_or, Bool.and_true, Bool.true_and, Bool.and_false, Bool.false_and, walk_lst, walk_tup, walk_str, lkOf_d, List.map_map, Function.comp_def, reduceCtorEq, ix_scr, len_scr, int_int, int_bl, tyS_l, tyS_b, tyS_i, Option.map_some, lstOf_lst, mkL_cell0, alloc_0, mk_strs]
    exact end1 _ _ _ _
theorem dig_step (cl : Nat → List U → Stk → RE U) (scr : List Int) (n most many : Int) (ns : List Int) (gs nm hid : List S) (rs : List (List Cell)) (hl : ns.length = 60) (hp : hid.length = gs.length) (hg0 : 0 < gs.length) (hg : gs.length ≤ 8) (hnm : nm.length ≤ 10) (i : Nat) (hi : i < nm.length) (ρ : Env) (s : Stk) (h : InvD scr n most many ns gs nm hid rs i ρ s) :
    ∃ ρ' s', ((fun x ρ s => RS.of (RE.of (bindT (.name 9) x ρ) s) fun ρ1 s => evSs P cl (match l__law_dig_0 with | .for _ _ b => b | _ => []) ρ1 s) (Im.one (.d (.int (0 + (i : Int))))) ρ s = .nx ρ' s') ∧ InvD scr n most many ns gs nm hid rs (i + 1) ρ' s' := by
  obtain ⟨a, b, c, d, e, f, rfl, rfl⟩ := h
  have m1 : ∀ c : Int, intOp .mul 2 c = some (2 * c) := fun c => op_mul _ _ (mul_l _ _ (by decide) (by decide))
  have m2 : ∀ c : Int, intOp .mul 5 c = some (5 * c) := fun c => op_mul _ _ (mul_l _ _ (by decide) (by decide))
  have d1 : ∀ c : Int, intOp .mod c (hid.length : Int) = some (c % (hid.length : Int)) := fun c => op_mod _ _ (by omega)
  have d2 : ∀ c : Int, intOp .mod c (gs.length : Int) = some (c % (gs.length : Int)) := fun c => op_mod _ _ (by omega)
  have d3 : ∀ c : Int, intOp .mod c 3 = some (c % 3) := fun c => op_mod _ _ (by decide)
  have d4 : ∀ c : Int, intOp .mod c 2 = some (c % 2) := fun c => op_mod _ _ (by decide)
  have d5 : ∀ c : Int, intOp .mod c 60 = some (c % 60) := fun c => op_mod _ _ (by decide)
  have f0 : 0 ≤ firstI ns hid i := Int.emod_nonneg _ (by omega)
  have f1 : firstI ns hid i < hid.length := Int.emod_lt_of_pos _ (by omega)
  have d6 : ∀ c : Int, intOp .mod c ((hid.length : Int) - firstI ns hid i) = some (c % ((hid.length : Int) - firstI ns hid i)) := fun c => op_mod _ _ (by omega)
  have n1 : ∀ s, ixU s (.d (nsD ns)) (.d (.int (10 + 2 * (0 + (i : Int))))) = some (.d (.int (nsAt ns (10 + 2 * i)))) := fun s => ix_ns _ _ _ _ (by omega) (by omega)
  have n2 : ∀ s, ixU s (.d (nsD ns)) (.d (.int (11 + 2 * (0 + (i : Int))))) = some (.d (.int (nsAt ns (11 + 2 * i)))) := fun s => ix_ns _ _ _ _ (by omega) (by omega)
  have n3 : ∀ s, ixU s (.d (nsD ns)) (.d (.int 40)) = some (.d (.int (nsAt ns 40))) := fun s => ix_ns _ _ _ 40 rfl (by omega)
  have n4 : ∀ s, ixU s (.d (nsD ns)) (.d (.int (30 + (0 + (i : Int))))) = some (.d (.int (nsAt ns (30 + i)))) := fun s => ix_ns _ _ _ _ (by omega) (by omega)
  have n5 : ∀ s, ixU s (.d (nsD ns)) (.d (.int (41 + (0 + (i : Int))))) = some (.d (.int (nsAt ns (41 + i)))) := fun s => ix_ns _ _ _ _ (by omega) (by omega)
  have g1 : ∀ s, ixU s (.d (strD gs)) (.d (.int (nsAt ns (41 + i) % (gs.length : Int)))) = some (.d (.str (oddW ns gs i))) := fun s => ix_strs _ _ _ (Int.emod_nonneg _ (by omega)) (Int.emod_lt_of_pos _ (by omega))
  have g2 : ∀ s, ixU s (.d (strD gs)) (.d (.int 0)) = some (.d (.str (gs.getD 0 []))) := fun s => ix_strs _ _ _ (by decide) (by omega)
  have g3 : ∀ s, ixU s (.d (strD nm)) (.d (.int (0 + (i : Int)))) = some (.d (.str (nm.getD i []))) := fun s => by
    rw [ix_strs _ _ _ (by omega) (by omega)]; simp
  have q1 : nsAt ns (10 + 2 * i) % (hid.length : Int) = firstI ns hid i := rfl
  have q2 : cut hid (some (firstI ns hid i)) (some (firstI ns hid i + 1 + nsAt ns (11 + 2 * i) % ((hid.length : Int) - firstI ns hid i))) = mem1 ns hid i := rfl
  have l1 : (mem1 ns hid i).length ≤ 8 := by have := (cut_sub hid (some (firstI ns hid i)) (some (firstI ns hid i + 1 + nsAt ns (11 + 2 * i) % ((hid.length : Int) - firstI ns hid i)))).length_le; rw [q2] at this; omega
  rw [show (match l__law_dig_0 with | .for _ _ b => b | _ => []) = (match l__law_dig_0 with | .for _ _ (x :: y :: z :: _) => [x, y, z] | _ => []) ++ digTail from rfl]
  obtain ⟨tl, htl⟩ : ∃ tl, tl = digTail := ⟨_, rfl⟩
  have ta := dig_tail (P := P) cl scr n most many ns gs nm hid rs hl hp hg0 hg hnm i hi
  rw [← htl] at ta ⊢
  simp -implicitDefEqProofs only [l__law_dig_0, List.cons_append, List.nil_append, unlock_nx_mk, unlock_ret_mk, evSs, evS_set, evS_par, evS_aug, evS_exp, evS_ret, evS_retN, evS_ife, evS_raise, evS_setix, evS_setfld, evS_try, evS_cont, evS_brk, evS_pass, evE, evEs, evC, evI, evO, RE.bind_ok, RE.bind_ex, RE.blk_ok, RE.of_some, RE.of_none, binI, op_add, op_sub, RS.unlock_nx, RS.unlock_ret, RS.unlock_ex, RS.of_ok, RS.of_ex, RS.seq_nx, RS.seq_ret, RS.seq_ex, RS.seq_cnt, RS.turn_nx, RS.turn_cnt, RS.turn_ret, RS.turn_ex, getV_0, getV_s, set_0, set_s, ewipe_nil, ewipe_cons, truth_bl, truth_int, truth_lst, truth_non, isTy, len_str, len_lst, len_tup, leI, ltI, gtI, geI, eqI, neI, eqS, neS, ltS, leS, inSign, ninSign, isN_non, isnN_non, isN_int, isnN_int, isB, isnB, fin_ret, fin_nx, fin_ex, fin_cond, seq_cond, turn_cond, cond_ok, cond_bl, cond_f, cond_t, cond_ft, cond_or', cond_and', zip_lst, slc_lst, slc_str, ix_lst, ix_tup, ix_str, at_0, unlock_lock, unlock_same, unlock_mk, lock_nil, mkEnv_cons, mkEnv_nil_0, mkEnv_nil_s, Nat.reduceSub, Nat.sub_self, Nat.reduceAdd, Nat.add_zero, beq_self_eq_true, Bool.not_true, Bool.not_false, cond_true, cond_false, bind_name, bind_two_one, bind_two_many, asInt, List.map_cons, List.map_nil, Bool.or_true, Bool.true_or, Bool.or_false, Bool.false_or, Bool.and_true, Bool.true_and, Bool.and_false, Bool.false_and, walk_lst, walk_tup, walk_str, lkOf_d, List.map_map, Function.comp_def, reduceCtorEq, ix_scr, len_scr, int_int, int_bl, tyS_l, tyS_b, tyS_i, Option.map_some, lstOf_lst, mkL_cell0, alloc_0, m1, d1, len_strs, n1, q1, n2, d6, slc_strs, q2, n3, d3, n4]
  cases hc : (nsAt ns 40 % 3 == 1 && nsAt ns (30 + i) % 3 == 0) with
  | false =>
    have e5 : mem2 ns gs hid i = mem1 ns hid i := by rw [mem2, hc]; rfl
    rw [e5] at ta
    simp -implicitDefEqProofs only [unlock_nx_mk, unlock_ret_mk, evSs, evS_set, evS_par, evS_aug, evS_exp, evS_ret, evS_retN, evS_ife, evS_raise, evS_setix, evS_setfld, evS_try, evS_cont, evS_brk, evS_pass, evE, evEs, evC, evI, evO, RE.bind_ok, RE.bind_ex, RE.blk_ok, RE.of_some, RE.of_none, binI, op_add, op_sub, RS.unlock_nx, RS.unlock_ret, RS.unlock_ex, RS.of_ok, RS.of_ex, RS.seq_nx, RS.seq_ret, RS.seq_ex, RS.seq_cnt, RS.turn_nx, RS.turn_cnt, RS.turn_ret, RS.turn_ex, getV_0, getV_s, set_0, set_s, ewipe_nil, ewipe_cons, truth_bl, truth_int, truth_lst, truth_non, isTy, len_str, len_lst, len_tup, leI, ltI, gtI, geI, eqI, neI, eqS, neS, ltS, leS, inSign, ninSign, isN_non, isnN_non, isN_int, isnN_int, isB, isnB, fin_ret, fin_nx, fin_ex, fin_cond, seq_cond, turn_cond, cond_ok, cond_bl, cond_f, cond_t, cond_ft, cond_or', cond_and', zip_lst, slc_lst, slc_str, ix_lst, ix_tup, ix_str, at_0, unlock_lock, unlock_same, unlock_mk, lock_nil, mkEnv_cons, mkEnv_nil_0, mkEnv_nil_s, Nat.reduceSub, Nat.sub_self, Nat.reduceAdd, Nat.add_zero, beq_self_eq_true, Bool.not_true, Bool.not_false, cond_true, cond_false, bind_name, bind_two_one, bind_two_many, asInt, List.map_cons, List.map_nil, Bool.or_true, Bool.true_or, Bool.or_false, Bool.false_or, Bool.and_true, Bool.true_and, Bool.and_false, Bool.false_and, walk_lst, walk_tup, walk_str, lkOf_d, List.map_map, Function.comp_def, reduceCtorEq, ix_scr, len_scr, int_int, int_bl, tyS_l, tyS_b, tyS_i, Option.map_some, lstOf_lst, mkL_cell0, alloc_0]
    exact ta _ _ _ _
  | true =>
    have e5 : mem2 ns gs hid i = ((mem1 ns hid i).filter fun x => !(x == oddW ns gs i)) ++ (if (!(mem1 ns hid i).contains (oddW ns gs i)) = true then [oddW ns gs i] else []) := by rw [mem2, hc]; rfl
    rw [e5] at ta
    simp -implicitDefEqProofs only [unlock_nx_mk, unlock_ret_mk, evSs, evS_set, evS_par, evS_aug, evS_exp, evS_ret, evS_retN, evS_ife, evS_raise, evS_setix, evS_setfld, evS_try, evS_cont, evS_brk, evS_pass, evE, evEs, evC, evI, evO, RE.bind_ok, RE.bind_ex, RE.blk_ok, RE.of_some, RE.of_none, binI, op_add, op_sub, RS.unlock_nx, RS.unlock_ret, RS.unlock_ex, RS.of_ok, RS.of_ex, RS.seq_nx, RS.seq_ret, RS.seq_ex, RS.seq_cnt, RS.turn_nx, RS.turn_cnt, RS.turn_ret, RS.turn_ex, getV_0, getV_s, set_0, set_s, ewipe_nil, ewipe_cons, truth_bl, truth_int, truth_lst, truth_non, isTy, len_str, len_lst, len_tup, leI, ltI, gtI, geI, eqI, neI, eqS, neS, ltS, leS, inSign, ninSign, isN_non, isnN_non, isN_int, isnN_int, isB, isnB, fin_ret, fin_nx, fin_ex, fin_cond, seq_cond, turn_cond, cond_ok, cond_bl, cond_f, cond_t, cond_ft, cond_or', cond_and', zip_lst, slc_lst, slc_str, ix_lst, ix_tup, ix_str, at_0, unlock_lock, unlock_same, unlock_mk, lock_nil, mkEnv_cons, mkEnv_nil_0, mkEnv_nil_s, Nat.reduceSub, Nat.sub_self, Nat.reduceAdd, Nat.add_zero, beq_self_eq_true, Bool.not_true, Bool.not_false, cond_true, cond_false, bind_name, bind_two_one, bind_two_many, asInt, List.map_cons, List.map_nil, Bool.or_true, Bool.true_or, Bool.or_false, Bool.false_or, Bool.and_true, Bool.true_and, Bool.and_false, Bool.false_and, walk_lst, walk_tup, walk_str, lkOf_d, List.map_map, Function.comp_def, reduceCtorEq, ix_scr, len_scr, int_int, int_bl, tyS_l, tyS_b, tyS_i, Option.map_some, lstOf_lst, mkL_cell0, alloc_0, n5, d2, g1, walk_strs]
    rw [compL_filter (h := fun z : S => Im.one (.d (.str z))) (c := fun z => !(z == oddW ns gs i)) (g := fun z => .str z) (fun z hz => by
      simp -implicitDefEqProofs only [unlock_nx_mk, unlock_ret_mk, evSs, evS_set, evS_par, evS_aug, evS_exp, evS_ret, evS_retN, evS_ife, evS_raise, evS_setix, evS_setfld, evS_try, evS_cont, evS_brk, evS_pass, evE, evEs, evC, evI, evO, RE.bind_ok, RE.bind_ex, RE.blk_ok, RE.of_some, RE.of_none, binI, op_add, op_sub, RS.unlock_nx, RS.unlock_ret, RS.unlock_ex, RS.of_ok, RS.of_ex, RS.seq_nx, RS.seq_ret, RS.seq_ex, RS.seq_cnt, RS.turn_nx, RS.turn_cnt, RS.turn_ret, RS.turn_ex, getV_0, getV_s, set_0, set_s, ewipe_nil, ewipe_cons, truth_bl, truth_int, truth_lst, truth_non, isTy, len_str, len_lst, len_tup, leI, ltI, gtI, geI, eqI, neI, eqS, neS, ltS, leS, inSign, ninSign, isN_non, isnN_non, isN_int, isnN_int, isB, isnB, fin_ret, fin_nx, fin_ex, fin_cond, seq_cond, turn_cond, cond_ok, cond_bl, cond_f, cond_t, cond_ft, cond_or', cond_and', zip_lst, slc_lst, slc_str, ix_lst, ix_tup, ix_str, at_0, unlock_lock, unlock_same, unlock_mk, lock_nil, mkEnv_cons, mkEnv_nil_0, mkEnv_nil_s, Nat.reduceSub, Nat.sub_self, Nat.reduceAdd, Nat.add_zero, beq_self_eq_true, Bool.not_true, Bool.not_false, cond_true, cond_false, bind_name, bind_two_one, bind_two_many, asInt, List.map_cons, List.map_nil, Bool.or_true, Bool.true_or, Bool.or_false, Bool.false_or, Bool.and_true, Bool.true_and, Bool.and_false, Bool.false_and, walk_lst, walk_tup, walk_str, lkOf_d, List.map_map, Function.comp_def, reduceCtorEq, ix_scr, len_scr, int_int, int_bl, tyS_l, tyS_b, tyS_i, Option.map_some, lstOf_lst, mkL_cell0, alloc_0])]
    have l2 : (((mem1 ns hid i).filter fun x => !(x == oddW ns gs i)).map fun z => z).length + (if (!(mem1 ns hid i).contains (oddW ns gs i)) = true then [oddW ns gs i] else []).length ≤ 16777216 := by
      have := List.length_filter_le (fun x => !(x == oddW ns gs i)) (mem1 ns hid i)
      rw [List.length_map]
      split <;> simp <;> omega
    simp -implicitDefEqProofs only [unlock_nx_mk, unlock_ret_mk, evSs, evS_set, evS_par, evS_aug, evS_exp, evS_ret, evS_retN, evS_ife, evS_raise, evS_setix, evS_setfld, evS_try, evS_cont, evS_brk, evS_pass, evE, evEs, evC, evI, evO, RE.bind_ok, RE.bind_ex, RE.blk_ok, RE.of_some, RE.of_none, binI, op_add, op_sub, RS.unlock_nx, RS.unlock_ret, RS.unlock_ex, RS.of_ok, RS.of_ex, RS.seq_nx, RS.seq_ret, RS.seq_ex, RS.seq_cnt, RS.turn_nx, RS.turn_cnt, RS.turn_ret, RS.turn_ex, getV_0, getV_s, set_0, set_s, ewipe_nil, ewipe_cons, truth_bl, truth_int, truth_lst, truth_non, isTy, len_str, len_lst, len_tup, leI, ltI, gtI, geI, eqI, neI, eqS, neS, ltS, leS, inSign, ninSign, isN_non, isnN_non, isN_int, isnN_int, isB, isnB, fin_ret, fin_nx, fin_ex, fin_cond, seq_cond, turn_cond, cond_ok, cond_bl, cond_f, cond_t, cond_ft, cond_or', cond_and', zip_lst, slc_lst, slc_str, ix_lst, ix_tup, ix_str, at_0, unlock_lock, unlock_same, unlock_mk, lock_nil, mkEnv_cons, mkEnv_nil_0, mkEnv_nil_s, Nat.reduceSub, Nat.sub_self, Nat.reduceAdd, Nat.add_zero, beq_self_eq_true, Bool.not_true, Bool.not_false, cond_true, cond_false, bind_name, bind_two_one, bind_two_many, asInt, List.map_cons, List.map_nil, Bool.or_true, Bool.true_or, Bool.or_false, Bool.false_or, Bool.and_true, Bool.true_and, Bool.and_false, Bool.false_and, walk_lst, walk_tup, walk_str, lkOf_d, List.map_map, Function.comp_def, reduceCtorEq, ix_scr, len_scr, int_int, int_bl, tyS_l, tyS_b, tyS_i, Option.map_some, lstOf_lst, mkL_cell0, alloc_0, mk_strs, nin_strs, mkL1, mul_strs, add_strs _ _ _ l2]
    rw [List.map_id']
    exact ta _ _ _ _
end Z
end

section
set_option autoImplicit false
set_option linter.all false
set_option maxRecDepth 100000
namespace Z
open Z.Law
variable {P : Pg}
section
variable (scr : List Int) (n most many : Nat)
def digG : List S := names scr n (1 + nsAt (nums scr (n + 1) 60) 55 % (most : Int)).toNat
def digN : List S := names scr (n + 2) (nsAt (nums scr (n + 1) 60) 51 % ((many : Int) + 1)).toNat
def digK : List (S × List S) := kindsF (nums scr (n + 1) 60) (digG scr n most) (hidden scr (n + 1) (digG scr n most)) (digN scr n many) (digN scr n many).length
end
theorem digG_len (scr : List Int) (n most : Nat) (h0 : 0 < most) : 0 < (digG scr n most).length ∧ (digG scr n most).length ≤ most := by
  have h1 : 0 ≤ nsAt (nums scr (n + 1) 60) 55 % (most : Int) := Int.emod_nonneg _ (by omega)
  have h2 : nsAt (nums scr (n + 1) 60) 55 % (most : Int) < most := Int.emod_lt_of_pos _ (by omega)
  have := names_len scr n (1 + nsAt (nums scr (n + 1) 60) 55 % (most : Int)).toNat
  rw [digG]
  exact ⟨this.2 (by omega), by omega⟩
theorem digN_len (scr : List Int) (n many : Nat) : (digN scr n many).length ≤ many := by
  have h1 : 0 ≤ nsAt (nums scr (n + 1) 60) 51 % ((many : Int) + 1) := Int.emod_nonneg _ (by omega)
  have h2 : nsAt (nums scr (n + 1) 60) 51 % ((many : Int) + 1) < (many : Int) + 1 := Int.emod_lt_of_pos _ (by omega)
  have := (names_len scr (n + 2) (nsAt (nums scr (n + 1) 60) 51 % ((many : Int) + 1)).toNat).1
  rw [digN]
  omega
theorem dig_eq (H : HJ P) (scr : List Int) (n most many : Nat) (h0 : 0 < most) (h1 : most ≤ 8) (h2 : many ≤ 9 + 1) (k : Nat) (rs : List (List Cell)) :
    call P (k + 3) 91 [.d (.scr scr), .d (.int n), .d (.int most), .d (.int many)] ⟨rs, []⟩ = .ok (.d (.tup [strD (digG scr n most), .lst (ksD (digK scr n most many))])) ⟨rs, []⟩ := by
  have e1 : call P (k + 2) 176 [.d (.scr scr), .d (.int ((n : Int) + 1)), .d (.int 60)] ⟨[] :: rs, []⟩ = .ok (.d (nsD (nums scr (n + 1) 60))) ⟨[] :: rs, []⟩ := numbers_eq H.toHG scr (n + 1) 60 (by decide) (k + 1) ([] :: rs)
  have x1 : 0 ≤ nsAt (nums scr (n + 1) 60) 55 % (most : Int) := Int.emod_nonneg _ (by omega)
  have x2 : nsAt (nums scr (n + 1) 60) 55 % (most : Int) < most := Int.emod_lt_of_pos _ (by omega)
  have y1 : 0 ≤ nsAt (nums scr (n + 1) 60) 51 % ((many : Int) + 1) := Int.emod_nonneg _ (by omega)
  have y2 : nsAt (nums scr (n + 1) 60) 51 % ((many : Int) + 1) < (many : Int) + 1 := Int.emod_lt_of_pos _ (by omega)
  have e2 : call P (k + 2) 170 [.d (.scr scr), .d (.int n), .d (.int (1 + nsAt (nums scr (n + 1) 60) 55 % (most : Int)))] ⟨[] :: rs, []⟩ = .ok (.d (strD (digG scr n most))) ⟨[] :: rs, []⟩ := by
    have := names_eq H.toHF scr n (1 + nsAt (nums scr (n + 1) 60) 55 % (most : Int)).toNat (by omega) k ([] :: rs)
    rw [Int.toNat_of_nonneg (by omega)] at this
    exact this
  have e3 : call P (k + 2) 170 [.d (.scr scr), .d (.int ((n : Int) + 2)), .d (.int (nsAt (nums scr (n + 1) 60) 51 % ((many : Int) + 1)))] ⟨[] :: rs, []⟩ = .ok (.d (strD (digN scr n many))) ⟨[] :: rs, []⟩ := by
    have := names_eq H.toHF scr (n + 2) (nsAt (nums scr (n + 1) 60) 51 % ((many : Int) + 1)).toNat (by omega) k ([] :: rs)
    rw [Int.toNat_of_nonneg (by omega)] at this
    exact this
  have e4 : call P (k + 2) 125 [.d (.scr scr), .d (.int ((n : Int) + 1)), .d (strD (digG scr n most))] ⟨[] :: rs, []⟩ = .ok (.d (strD (hidden scr (n + 1) (digG scr n most)))) ⟨[] :: rs, []⟩ := hidden_eq H.toHI scr (n + 1) _ (by have := (digG_len scr n most h0).2; omega) k ([] :: rs)
  have d1 : ∀ c : Int, intOp .mod c (most : Int) = some (c % (most : Int)) := fun c => op_mod _ _ (by omega)
  have d2 : ∀ c : Int, intOp .mod c ((many : Int) + 1) = some (c % ((many : Int) + 1)) := fun c => op_mod _ _ (by omega)
  have hl := nums_len scr (n + 1) 60
  have n1 : ∀ s, ixU s (.d (nsD (nums scr (n + 1) 60))) (.d (.int 55)) = some (.d (.int (nsAt (nums scr (n + 1) 60) 55))) := fun s => ix_ns _ _ _ 55 rfl (by omega)
  have n2 : ∀ s, ixU s (.d (nsD (nums scr (n + 1) 60))) (.d (.int 51)) = some (.d (.int (nsAt (nums scr (n + 1) 60) 51))) := fun s => ix_ns _ _ _ 51 rfl (by omega)
  have gl := digG_len scr n most h0
  have nl := digN_len scr n many
  have hp := (hidden_perm scr (n + 1) (digG scr n most)).length_eq
  rw [call_eq H.dig rfl]
  simp -implicitDefEqProofs only [f__law_dig, unlock_nx_mk, unlock_ret_mk, evSs, evS_set, evS_par, evS_aug, evS_exp, evS_ret, evS_retN, evS_ife, evS_raise, evS_setix, evS_setfld, evS_try, evS_cont, evS_brk, evS_pass, evE, evEs, evC, evI, evO, RE.bind_ok, RE.bind_ex, RE.blk_ok, RE.of_some, RE.of_none, binI, op_add, op_sub, RS.unlock_nx, RS.unlock_ret, RS.unlock_ex, RS.of_ok, RS.of_ex, RS.seq_nx, RS.seq_ret, RS.seq_ex, RS.seq_cnt, RS.turn_nx, RS.turn_cnt, RS.turn_ret, RS.turn_ex, getV_0, getV_s, set_0, set_s, ewipe_nil, ewipe_cons, truth_bl, truth_int, truth_lst, truth_non, isTy, len_str, len_lst, len_tup, leI, ltI, gtI, geI, eqI, neI, eqS, neS, ltS, leS, inSign, ninSign, isN_non, isnN_non, isN_int, isnN_int, isB, isnB, fin_ret, fin_nx, fin_ex, fin_cond, seq_cond, turn_cond, cond_ok, cond_bl, cond_f, cond_t, cond_ft, cond_or', cond_and', zip_lst, slc_lst, slc_str, ix_lst, ix_tup, ix_str, at_0, unlock_lock, unlock_same, unlock_mk, lock_nil, mkEnv_cons, mkEnv_nil_0, mkEnv_nil_s, Nat.reduceSub, Nat.sub_self, Nat.reduceAdd, Nat.add_zero, beq_self_eq_true, Bool.not_true, Bool.not_false, cond_true, cond_false, bind_name, bind_two_one, bind_two_many, asInt, List.map_cons, List.map_nil, Bool.or_true, Bool.true_or, Bool.or_false, Bool.false_or, Bool.and_true, Bool.true_and, Bool.and_false, Bool.false_and, walk_lst, walk_tup, walk_str, lkOf_d, List.map_map, Function.comp_def, reduceCtorEq, ix_scr, len_scr, int_int, int_bl, tyS_l, tyS_b, tyS_i, Option.map_some, lstOf_lst, mkL_cell0, alloc_0, e1, n1, d1, e2, n2, d2, e3, e4]
  rw [show l__law_dig_0 = .for (.name 9) (.rng1 (.bf .val .len [.var 6])) (match l__law_dig_0 with | .for _ _ b => b | _ => []) from rfl, evS_for]
  simp -implicitDefEqProofs only [unlock_nx_mk, unlock_ret_mk, evSs, evS_set, evS_par, evS_aug, evS_exp, evS_ret, evS_retN, evS_ife, evS_raise, evS_setix, evS_setfld, evS_try, evS_cont, evS_brk, evS_pass, evE, evEs, evC, evI, evO, RE.bind_ok, RE.bind_ex, RE.blk_ok, RE.of_some, RE.of_none, binI, op_add, op_sub, RS.unlock_nx, RS.unlock_ret, RS.unlock_ex, RS.of_ok, RS.of_ex, RS.seq_nx, RS.seq_ret, RS.seq_ex, RS.seq_cnt, RS.turn_nx, RS.turn_cnt, RS.turn_ret, RS.turn_ex, getV_0, getV_s, set_0, set_s, ewipe_nil, ewipe_cons, truth_bl, truth_int, truth_lst, truth_non, isTy, len_str, len_lst, len_tup, leI, ltI, gtI, geI, eqI, neI, eqS, neS, ltS, leS, inSign, ninSign, isN_non, isnN_non, isN_int, isnN_int, isB, isnB, fin_ret, fin_nx, fin_ex, fin_cond, seq_cond, turn_cond, cond_ok, cond_bl, cond_f, cond_t, cond_ft, cond_or', cond_and', zip_lst, slc_lst, slc_str, ix_lst, ix_tup, ix_str, at_0, unlock_lock, unlock_same, unlock_mk, lock_nil, mkEnv_cons, mkEnv_nil_0, mkEnv_nil_s, Nat.reduceSub, Nat.sub_self, Nat.reduceAdd, Nat.add_zero, beq_self_eq_true, Bool.not_true, Bool.not_false, cond_true, cond_false, bind_name, bind_two_one, bind_two_many, asInt, List.map_cons, List.map_nil, Bool.or_true, Bool.true_or, Bool.or_false, Bool.false_or, Bool.and_true, Bool.true_and, Bool.and_false, Bool.false_and, walk_lst, walk_tup, walk_str, lkOf_d, List.map_map, Function.comp_def, reduceCtorEq, ix_scr, len_scr, int_int, int_bl, tyS_l, tyS_b, tyS_i, Option.map_some, lstOf_lst, mkL_cell0, alloc_0, len_strs, rng1_nat _ (show (digN scr n many).length ≤ 16777216 by omega)]
  obtain ⟨ns, hns⟩ : ∃ ns, ns = nums scr (n + 1) 60 := ⟨_, rfl⟩
  obtain ⟨gs, hgs⟩ : ∃ gs, gs = digG scr n most := ⟨_, rfl⟩
  obtain ⟨nm, hnm⟩ : ∃ nm, nm = digN scr n many := ⟨_, rfl⟩
  obtain ⟨hid, hhid⟩ : ∃ hid, hid = hidden scr (n + 1) (digG scr n most) := ⟨_, rfl⟩
  rw [← hhid] at hp
  rw [← hgs] at gl hp
  rw [← hnm] at nl
  rw [← hns] at hl
  have ek : digK scr n most many = kindsF ns gs hid nm nm.length := by rw [digK, ← hns, ← hgs, ← hnm, hgs, ← hhid]
  rw [ek]
  rw [← hns, ← hgs, ← hnm, hgs, ← hhid, ← hgs]
  obtain ⟨ρ', s', e, a, b, c, d, f, g, e3, e4⟩ := forL_inv (F := fun x ρ s => RS.of (RE.of (bindT (.name 9) x ρ) s) fun ρ1 s => evSs P (call P (k + 2)) (match l__law_dig_0 with | .for _ _ b => b | _ => []) ρ1 s) (fun (i : Nat) => Im.one (.d (.int (0 + (i : Int))))) (InvD scr n most many ns gs nm hid rs) (List.range nm.length) 0 [some (.d (.scr scr)), some (.d (.int n)), some (.d (.int most)), some (.d (.int many)), some (.d (nsD ns)), some (.d (strD gs)), some (.d (strD nm)), some (.d (strD hid)), some (.r rs.length 0), none, none, none, none, none, none] ⟨[.lst []] :: rs, []⟩ ⟨_, _, _, _, _, _, rfl, rfl⟩ fun i x ρ s hx hi => by
      obtain ⟨hx1, hx2⟩ := List.getElem?_eq_some_iff.mp hx
      rw [List.getElem_range] at hx2
      subst hx2
      rw [List.length_range] at hx1
      rw [Nat.zero_add] at hi ⊢
      obtain ⟨ρ', s', e, i'⟩ := dig_step (P := P) (call P (k + 2)) scr n most many ns gs nm hid rs hl hp (by omega) (by omega) (by omega) i (by omega) ρ s hi
      exact ⟨ρ', s', .inl e, i'⟩
  rw [e]
  subst e3 e4
  rw [List.length_range, Nat.zero_add]
  simp -implicitDefEqProofs only [unlock_nx_mk, unlock_ret_mk, evSs, evS_set, evS_par, evS_aug, evS_exp, evS_ret, evS_retN, evS_ife, evS_raise, evS_setix, evS_setfld, evS_try, evS_cont, evS_brk, evS_pass, evE, evEs, evC, evI, evO, RE.bind_ok, RE.bind_ex, RE.blk_ok, RE.of_some, RE.of_none, binI, op_add, op_sub, RS.unlock_nx, RS.unlock_ret, RS.unlock_ex, RS.of_ok, RS.of_ex, RS.seq_nx, RS.seq_ret, RS.seq_ex, RS.seq_cnt, RS.turn_nx, RS.turn_cnt, RS.turn_ret, RS.turn_ex, getV_0, getV_s, set_0, set_s, ewipe_nil, ewipe_cons, truth_bl, truth_int, truth_lst, truth_non, isTy, len_str, len_lst, len_tup, leI, ltI, gtI, geI, eqI, neI, eqS, neS, ltS, leS, inSign, ninSign, isN_non, isnN_non, isN_int, isnN_int, isB, isnB, fin_ret, fin_nx, fin_ex, fin_cond, seq_cond, turn_cond, cond_ok, cond_bl, cond_f, cond_t, cond_ft, cond_or', cond_and', zip_lst, slc_lst, slc_str, ix_lst, ix_tup, ix_str, at_0, unlock_lock, unlock_same, unlock_mk, lock_nil, mkEnv_cons, mkEnv_nil_0, mkEnv_nil_s, Nat.reduceSub, Nat.sub_self, Nat.reduceAdd, Nat.add_zero, beq_self_eq_true, Bool.not_true, Bool.not_false, cond_true, cond_false, bind_name, bind_two_one, bind_two_many, asInt, List.map_cons, List.map_nil, Bool.or_true, Bool.true_or, Bool.or_false, Bool.false_or, Bool.and_true, Bool.true_and, Bool.and_false, Bool.false_and, walk_lst, walk_tup, walk_str, lkOf_d, List.map_map, Function.comp_def, reduceCtorEq, ix_scr, len_scr, int_int, int_bl, tyS_l, tyS_b, tyS_i, Option.map_some, lstOf_lst, mkL_cell0, alloc_0, frz_top, tupU_2]
end Z
end

section
set_option autoImplicit false
set_option linter.all false
set_option maxRecDepth 100000
namespace Z
open Z.Law
variable {P : Pg}
/-- graves and kinds of a dig -/
structure Dg (gs : List S) (kk : List (S × List S)) : Prop where
  g0 : 0 < gs.length
  g8 : gs.length ≤ 8
  gp : gs.Pairwise (· < ·)
  gn : ∀ g ∈ gs, nameS g = true
  k10 : kk.length ≤ 10
  kp : (kk.map (·.1)).Pairwise (· < ·)
  kn : ∀ p ∈ kk, nameS p.1 = true
  m0 : ∀ p ∈ kk, p.2 ≠ []
  mp : ∀ p ∈ kk, p.2.Pairwise (· < ·)
  ms : ∀ p ∈ kk, ∀ g ∈ p.2, g ∈ gs
theorem pw_nd {l : List S} (h : l.Pairwise (· < ·)) : l.Nodup := h.imp fun {a b} h (e : a = b) => by subst e; exact s_irr a h
theorem getD_mem (gs : List S) (i : Nat) (h : i < gs.length) : gs.getD i [] ∈ gs := by
  rw [List.getD_eq_getElem?_getD, List.getElem?_eq_getElem h]; exact List.getElem_mem h
section
variable (ns : List Int) (gs hid : List S) (j : Nat)
theorem mem1_ok (hp : hid.Perm gs) (nd : gs.Nodup) : (mem1 ns hid j).Nodup ∧ ∀ g ∈ mem1 ns hid j, g ∈ gs := by
  have h := cut_sub hid (some (firstI ns hid j)) (some (firstI ns hid j + 1 + nsAt ns (11 + 2 * j) % ((hid.length : Int) - firstI ns hid j)))
  exact ⟨h.nodup (hp.nodup_iff.mpr nd), fun g hg => hp.mem_iff.mp (h.subset hg)⟩
theorem oddW_mem (h0 : 0 < gs.length) : oddW ns gs j ∈ gs := by
  have h1 : 0 ≤ nsAt ns (41 + j) % (gs.length : Int) := Int.emod_nonneg _ (by omega)
  have h2 : nsAt ns (41 + j) % (gs.length : Int) < gs.length := Int.emod_lt_of_pos _ (by omega)
  exact getD_mem _ _ (by omega)
theorem mem2_ok (hp : hid.Perm gs) (nd : gs.Nodup) (h0 : 0 < gs.length) : (mem2 ns gs hid j).Nodup ∧ ∀ g ∈ mem2 ns gs hid j, g ∈ gs := by
  have h := mem1_ok ns gs hid j hp nd
  rw [mem2]
  cases (nsAt ns 40 % 3 == 1 && nsAt ns (30 + j) % 3 == 0) with
  | false => exact h
  | true =>
    simp only [cond_true]
    constructor
    · rw [List.nodup_append]
      refine ⟨h.1.filter _, by split <;> simp, ?_⟩
      intro a ha b hb e
      subst e
      rw [List.mem_filter] at ha
      split at hb
      · rw [List.mem_singleton] at hb; subst hb; simp at ha
      · cases hb
    · intro g hg
      rcases List.mem_append.mp hg with hg | hg
      · exact h.2 g (List.mem_filter.mp hg).1
      · split at hg
        · rw [List.mem_singleton] at hg; subst hg; exact oddW_mem ns gs j h0
        · cases hg
theorem mem3_ok (hp : hid.Perm gs) (nd : gs.Nodup) (h0 : 0 < gs.length) : (mem3 ns gs hid j).Nodup ∧ ∀ g ∈ mem3 ns gs hid j, g ∈ gs := by
  have h := mem2_ok ns gs hid j hp nd h0
  rw [mem3]
  cases (nsAt ns 40 % 3 == 2) with
  | false => exact h
  | true =>
    simp only [cond_true]
    have hs := ((List.filter_sublist (l := List.range gs.length) (p := fun (k : Nat) => nsAt ns ((41 + 5 * (0 + (j : Int)) + (0 + (k : Int))) % 60).toNat % 2 == 0)).map fun k => gs.getD k [])
    rw [map_getD] at hs
    exact ⟨hs.nodup nd, fun g hg => hs.subset hg⟩
theorem mem4_ok (hp : hid.Perm gs) (nd : gs.Nodup) (h0 : 0 < gs.length) : mem4 ns gs hid j ≠ [] ∧ (mem4 ns gs hid j).Pairwise (· < ·) ∧ ∀ g ∈ mem4 ns gs hid j, g ∈ gs := by
  have h := mem3_ok ns gs hid j hp nd h0
  rw [mem4]
  cases e : (sortS (mem3 ns gs hid j)).isEmpty with
  | false =>
    refine ⟨fun q => ?_, sortS_lt _ h.1, fun g hg => h.2 g ((sortS_perm _).mem_iff.mp hg)⟩
    simp only [Bool.not_false, cond_true] at q
    rw [q] at e; cases e
  | true =>
    refine ⟨by simp, by simp, fun g hg => ?_⟩
    simp only [Bool.not_true, cond_false, List.mem_singleton] at hg
    subst hg
    exact getD_mem _ _ h0
end
theorem kindsF_names (ns : List Int) (gs hid nm : List S) : (kindsF ns gs hid nm nm.length).map (·.1) = nm := by
  rw [kindsF, List.map_map]; exact map_getD nm
theorem dig_dg (scr : List Int) (n most many : Nat) (h0 : 0 < most) (h1 : most ≤ 8) (h2 : many ≤ 10) : Dg (digG scr n most) (digK scr n most many) := by
  have gl := digG_len scr n most h0
  have nl := digN_len scr n many
  have gp : (digG scr n most).Pairwise (· < ·) := names_lt _ _ _
  have hp := hidden_perm scr (n + 1) (digG scr n most)
  have hm : ∀ p ∈ digK scr n most many, ∃ j, j < (digN scr n many).length ∧ p = ((digN scr n many).getD j [], mem4 (nums scr (n + 1) 60) (digG scr n most) (hidden scr (n + 1) (digG scr n most)) j) := fun p hp => by
    rw [digK, kindsF] at hp
    obtain ⟨j, hj, rfl⟩ := List.mem_map.mp hp
    exact ⟨j, List.mem_range.mp hj, rfl⟩
  refine ⟨gl.1, by omega, gp, names_name _ _ _, by rw [digK, kindsF]; simp; omega, ?_, ?_, ?_, ?_, ?_⟩
  · rw [digK, kindsF_names]; exact names_lt _ _ _
  · intro p h
    obtain ⟨j, hj, rfl⟩ := hm p h
    exact names_name _ _ _ _ (getD_mem _ _ hj)
  · intro p h
    obtain ⟨j, hj, rfl⟩ := hm p h
    exact (mem4_ok _ _ _ j hp (pw_nd gp) gl.1).1
  · intro p h
    obtain ⟨j, hj, rfl⟩ := hm p h
    exact (mem4_ok _ _ _ j hp (pw_nd gp) gl.1).2.1
  · intro p h
    obtain ⟨j, hj, rfl⟩ := hm p h
    exact (mem4_ok _ _ _ j hp (pw_nd gp) gl.1).2.2
/-! ### what is refused -/
theorem areNames_str {l : List S} (hp : l.Pairwise (· < ·)) (hn : ∀ g ∈ l, nameS g = true) : areNames (.lst (l.map .str)) = true := by
  rw [areNames, txt_map, Bool.and_eq_true]
  refine ⟨?_, pw_asc hp⟩
  rw [List.all_map, List.all_eq_true]
  exact hn
theorem someOf_str {gs l : List S} (hp : l.Pairwise (· < ·)) (hn : ∀ g ∈ l, nameS g = true) (h0 : l ≠ []) (hs : ∀ g ∈ l, g ∈ gs) : someOf gs (strD l) = true := by
  rw [strD, someOf, areNames_str hp hn, txt_map]
  rw [Bool.true_and, Bool.and_eq_true]
  refine ⟨decide_eq_true (by rw [List.length_map]; exact List.length_pos_iff.mpr h0), ?_⟩
  rw [List.all_eq_true]
  intro g hg
  exact List.contains_iff_mem.mpr (hs g hg)
theorem Dg.right {gs : List S} {kk : List (S × List S)} (G : Dg gs kk) : ∀ p ∈ kk, rightK gs (.tup [.str p.1, strD p.2]) = true := fun p h => by
  rw [rightK, Bool.and_eq_true]
  exact ⟨G.kn p h, someOf_str (G.mp p h) (fun g hg => G.gn g (G.ms p h g hg)) (G.m0 p h) (G.ms p h)⟩
theorem Dg.graves {gs : List S} {kk : List (S × List S)} (G : Dg gs kk) : areGraves (strD gs) = true := by
  rw [strD, areGraves, areNames_str G.gp G.gn, List.length_map]
  simp [G.g8]
  have := G.g0; omega
theorem pre_right {gs : List S} {kk : List (S × List S)} (G : Dg gs kk) (rest : List D) : ∀ p ∈ (ksD kk).zipIdx, wrongB gs (ksD kk ++ rest) p = false := by
  rintro ⟨x, i⟩ h
  obtain ⟨hi, hx⟩ := List.mk_mem_zipIdx_iff_getElem?.mp h |> List.getElem?_eq_some_iff.mp
  have hi' : i < kk.length := by simpa [ksD] using hi
  have hx' : x = .tup [.str kk[i].1, strD kk[i].2] := by rw [← hx]; simp [ksD]
  subst hx'
  rw [wrongB, G.right _ (List.getElem_mem hi')]
  cases i with
  | zero => rfl
  | succ j =>
    have e : (ksD kk ++ rest).getD (j + 1 - 1) D.non = .tup [.str kk[j].1, strD kk[j].2] := by
      rw [List.getD_eq_getElem?_getD, Nat.add_sub_cancel, List.getElem?_append_left (by rw [ksD, List.length_map]; omega), ksD, List.getElem?_map, List.getElem?_eq_getElem (by omega)]
      rfl
    simp only [e, knm]
    have := List.pairwise_iff_getElem.mp G.kp j (j + 1) (by simp; omega) (by simp; omega) (by omega)
    simp only [List.getElem_map] at this
    simp [this]
theorem firstWrong_none {gs : List S} {kk : List (S × List S)} (G : Dg gs kk) : firstWrong gs (ksD kk) = none := by
  rw [firstWrong, List.findSome?_eq_none_iff]
  intro p hp
  have := pre_right G [] p hp
  rw [List.append_nil] at this
  rw [this]; rfl
theorem firstWrong_at {gs : List S} {kk : List (S × List S)} (G : Dg gs kk) (x : D) (rest : List D) (h : rightK gs x = false ∨ (∃ z b, x = .tup [.str z, b] ∧ ∃ p, kk.getLast? = some p ∧ ¬ p.1 < z)) : firstWrong gs (ksD kk ++ x :: rest) = some kk.length := by
  have hl : (ksD kk).length = kk.length := by simp [ksD]
  rw [firstWrong, List.zipIdx_append, List.findSome?_append, List.zipIdx_cons, List.findSome?_cons, hl]
  have e1 : (ksD kk).zipIdx.findSome? (fun p => if wrongB gs (ksD kk ++ x :: rest) p = true then some p.2 else none) = none := by
    rw [List.findSome?_eq_none_iff]
    intro p hp
    rw [pre_right G (x :: rest) p hp]; rfl
  rw [e1]
  have e2 : wrongB gs (ksD kk ++ x :: rest) (x, 0 + kk.length) = true := by
    rw [wrongB, Nat.zero_add]
    rcases h with h | ⟨z, b, rfl, p, hp, hz⟩
    · rw [h]; rfl
    · have h0 : 0 < kk.length := by
        cases kk with
        | nil => cases hp
        | cons => simp
      rw [List.getLast?_eq_getElem?] at hp
      have e : (ksD kk ++ D.tup [.str z, b] :: rest).getD (kk.length - 1) D.non = .tup [.str p.1, strD p.2] := by
        rw [List.getD_eq_getElem?_getD, List.getElem?_append_left (by rw [ksD, List.length_map]; omega), ksD, List.getElem?_map, hp]
        rfl
      simp only [e, knm]
      simp [h0, hz]
  rw [e2]
  simp
theorem Dg.take {gs : List S} {kk : List (S × List S)} (G : Dg gs kk) (n : Nat) : Dg gs (kk.take n) := by
  have hs : ∀ p ∈ kk.take n, p ∈ kk := fun p h => List.mem_of_mem_take h
  refine ⟨G.g0, G.g8, G.gp, G.gn, ?_, ?_, fun p h => G.kn p (hs p h), fun p h => G.m0 p (hs p h), fun p h => G.mp p (hs p h), fun p h => G.ms p (hs p h)⟩
  · have := G.k10; rw [List.length_take]; omega
  · rw [List.map_take]; exact G.kp.sublist (List.take_sublist _ _)
theorem refusal_ks {gs : List S} {kk : List (S × List S)} (G : Dg gs kk) (ks : List D) : refusal (strD gs) (.lst ks) = if 10 < ks.length then some (-2) else (firstWrong gs ks).map Int.ofNat := by
  unfold Z.refusal
  rw [G.graves, if_pos rfl]
  show (if 10 < ks.length then some (-2) else (firstWrong ((gs.map D.str).filterMap txt) ks).map Int.ofNat) = _
  rw [txt_map]
theorem Dg.refusal {gs : List S} {kk : List (S × List S)} (G : Dg gs kk) : Z.refusal (strD gs) (.lst (ksD kk)) = none := by
  rw [refusal_ks G, firstWrong_none G, if_neg (by have := G.k10; rw [ksD, List.length_map]; omega)]
  rfl
theorem Dg.isR {gs : List S} {kk : List (S × List S)} (G : Dg gs kk) : Right gs kk := by
  refine ⟨fun p h => ?_, pw_nd G.kp, pw_nd G.gp⟩
  have := G.kn p h
  revert this
  cases p.1 with
  | nil => intro _; simp
  | cons c r => intro h; simp only [nameS, Bool.and_eq_true, decide_eq_true_eq] at h; simp; omega
theorem ksD_ok (kk : List (S × List S)) : (ksD kk).all kindOk = true := by
  rw [List.all_eq_true]
  intro x hx
  obtain ⟨p, _, rfl⟩ := List.mem_map.mp hx
  simp [kindOk, notObj, flat1, strD]
theorem flat_strD (l : List S) : flat1 (strD l) = true := by
  rw [strD, flat1, List.all_map, List.all_eq_true]
  intro x _; rfl
theorem Dg.takes {gs : List S} {kk : List (S × List S)} (G : Dg gs kk) : Takes (strD gs) (.lst (ksD kk)) :=
  ⟨flat_strD _, ksD_ok kk, fun _ => ⟨gs, kk, rfl, rfl, G.isR⟩⟩
end Z
end

section
set_option autoImplicit false
set_option linter.all false
set_option maxRecDepth 100000
namespace Z
open Z.Law
variable {P : Pg}
theorem SG_z : ∀ i, i < 36 → i % 3 = 0 → SG.getD i 97 < 122 := by decide
theorem LT_z : ∀ i, i < 26 → LT.getD i 97 ≤ 122 := by decide
def ZZZ : S := [122, 122, 122]
theorem word_z (ns : List Int) (j : Nat) : word ns j < ZZZ := by
  have h1 : lt0 ns j ≤ 122 := LT_z _ (by have := Int.emod_lt_of_pos (nsAt ns (3 * j)) (show (0 : Int) < 26 by decide); omega)
  rw [word, ZZZ, List.cons_lt_cons_iff]
  by_cases h2 : lt0 ns j < 122
  · exact .inl h2
  · refine .inr ⟨by omega, ?_⟩
    cases e : lenW ns j with
    | zero => simp [tl]
    | succ n =>
      have h3 : nsAt ns (3 * j + 2) % 3 = 0 := by
        rw [lenW] at e
        split at e
        · rename_i h; exact eq_of_beq h
        · simp at e
      rw [tl, List.range_succ_eq_map, List.map_cons, List.cons_lt_cons_iff]
      left
      exact SG_z _ (by omega) (by omega)
theorem words_z (ns : List Int) : ∀ j, ∀ w ∈ words ns j, w < ZZZ
  | 0, w, h => by cases h
  | j + 1, w, h => by
    rw [words, addW] at h
    split at h
    · exact words_z ns j w h
    · rcases List.mem_append.mp h with h | h
      · exact words_z ns j w h
      · rw [List.mem_singleton] at h; subst h; exact word_z ns j
theorem digK_z (scr : List Int) (n most many : Nat) : ∀ p ∈ digK scr n most many, p.1 < ZZZ := fun p hp => by
  have : p.1 ∈ digN scr n many := by
    rw [digK] at hp
    have := List.mem_map_of_mem (f := (·.1)) hp
    rw [kindsF_names] at this
    exact this
  exact words_z _ _ _ ((sortS_perm _).mem_iff.mp this)
theorem forL_same {α : Type} {F : Im → Env → Stk → RS} (h : α → Im) (I : Env → Prop) (s : Stk) : ∀ (l : List α) (ρ : Env), I ρ → (∀ x ∈ l, ∀ ρ, I ρ → ∃ ρ', (F (h x) ρ s = .nx ρ' s ∨ F (h x) ρ s = .cnt ρ' s) ∧ I ρ') → ∃ ρ', forL F (l.map h) ρ s = .nx ρ' s ∧ I ρ'
  | [], ρ, i, _ => ⟨ρ, rfl, i⟩
  | x :: l, ρ, i, e => by
    obtain ⟨ρ1, e1, i1⟩ := e x (List.mem_cons_self ..) ρ i
    obtain ⟨ρ2, e2, i2⟩ := forL_same h I s l ρ1 i1 fun y hy => e y (List.mem_cons_of_mem _ hy)
    refine ⟨ρ2, ?_, i2⟩
    rw [List.map_cons, forL]
    rcases e1 with e1 | e1 <;> (rw [e1]; exact e2)
/-! ### odd values -/
def badN : List D := [.str [], .str [65], .str [49, 97], .str [97, 32, 98], .str [97, 45, 98], .str [97, 98, 99, 100, 101, 102, 103, 104, 105, 106, 107, 108, 109], .non, .int 5]
def nine : List D := [.str [97], .str [98], .str [99], .str [100], .str [101], .str [102], .str [103], .str [104], .str [105]]
theorem badN_no : ∀ x ∈ badN, isName x = false ∧ notObj x = true := by decide +kernel
theorem refusal_bad {g x : D} (h : areGraves g = false) : refusal g x = some (-1) := by
  unfold refusal
  rw [h]; rfl
theorem asc_two (x : S) : ∀ l : List S, asc (l ++ [x, x]) = false
  | [] => by
    have := s_irr x
    simp [asc, this]
  | y :: l => by
    have ih := asc_two x l
    rw [asc] at ih ⊢
    cases l with
    | nil =>
      have := s_irr x
      simp [this]
    | cons z l =>
      simp only [List.cons_append, List.drop_succ_cons, List.drop_zero, List.zip_cons_cons, List.all_cons] at ih ⊢
      rw [ih, Bool.and_false]
def badG (gs : List S) : List D :=
  [.non, .lst [], .tup (gs.map .str), .str [97, 98], .int 5, .lst (gs.map .str ++ [.str (gs.getD (gs.length - 1) [])]), .lst nine, .lst [.str [98], .str [97]]]
  ++ badN.map fun x => .lst ((gs.take (gs.length - 1)).map .str ++ [x])
theorem badG_no (gs : List S) (h0 : 0 < gs.length) : ∀ x ∈ badG gs, areGraves x = false ∧ flat1 x = true := by
  intro x hx
  rw [badG, List.mem_append] at hx
  rcases hx with hx | hx
  · simp only [List.mem_cons, List.not_mem_nil, or_false] at hx
    rcases hx with rfl | rfl | rfl | rfl | rfl | rfl | rfl | rfl
    · exact ⟨rfl, rfl⟩
    · exact ⟨rfl, rfl⟩
    · exact ⟨rfl, rfl⟩
    · exact ⟨rfl, rfl⟩
    · exact ⟨rfl, rfl⟩
    · have e : gs.map D.str ++ [.str (gs.getD (gs.length - 1) [])] = (gs.take (gs.length - 1) ++ [gs.getD (gs.length - 1) [], gs.getD (gs.length - 1) []]).map .str := by
        rw [show gs.map D.str ++ [D.str (gs.getD (gs.length - 1) [])] = (gs ++ [gs.getD (gs.length - 1) []]).map .str by simp]
        congr 1
        have : gs = gs.take (gs.length - 1) ++ [gs.getD (gs.length - 1) []] := by
          rw [List.getD_eq_getElem?_getD, List.getElem?_eq_getElem (by omega)]
          simp only [Option.getD_some]
          rw [List.take_append_getElem (by omega), Nat.sub_add_cancel h0, List.take_length]
        conv => lhs; rw [this]
        simp
      rw [e]
      constructor
      · rw [areGraves, areNames, txt_map, asc_two]; simp
      · exact flat_strD _
    · exact ⟨by decide +kernel, by decide +kernel⟩
    · exact ⟨by decide +kernel, by decide +kernel⟩
  · obtain ⟨y, hy, rfl⟩ := List.mem_map.mp hx
    obtain ⟨h1, h2⟩ := badN_no y hy
    constructor
    · rw [areGraves, areNames]; simp [h1]
    · have e := flat_strD (gs.take (gs.length - 1))
      rw [strD, flat1] at e
      rw [flat1, List.all_append, e, List.all_cons, h2]; rfl
theorem takes_bad {g x : D} (h : areGraves g = false) (hf : flat1 g = true) (hx : kindsOk x = true) : Takes g x := ⟨hf, hx, fun e => by rw [refusal_bad h] at e; cases e⟩
theorem takes_some {g x : D} {i : Int} (h : refusal g x = some i) (hf : flat1 g = true) (hx : kindsOk x = true) : Takes g x := ⟨hf, hx, fun e => by rw [h] at e; cases e⟩

theorem mkLv0 (s : Stk) : mkL .val [] s = .ok (.d (.lst [])) s := rfl
theorem tupU0 : tupU [] = some (.d (.tup [])) := rfl
theorem mkLv1 (s : Stk) (x0 : D) : mkL .val [.d x0] s = .ok (.d (.lst [x0])) s := rfl
theorem tupU1 (x0 : D) : tupU [.d x0] = some (.d (.tup [x0])) := rfl
theorem mkLv2 (s : Stk) (x0 x1 : D) : mkL .val [.d x0, .d x1] s = .ok (.d (.lst [x0, x1])) s := rfl
theorem tupU2 (x0 x1 : D) : tupU [.d x0, .d x1] = some (.d (.tup [x0, x1])) := rfl
theorem mkLv3 (s : Stk) (x0 x1 x2 : D) : mkL .val [.d x0, .d x1, .d x2] s = .ok (.d (.lst [x0, x1, x2])) s := rfl
theorem tupU3 (x0 x1 x2 : D) : tupU [.d x0, .d x1, .d x2] = some (.d (.tup [x0, x1, x2])) := rfl
theorem mkLv4 (s : Stk) (x0 x1 x2 x3 : D) : mkL .val [.d x0, .d x1, .d x2, .d x3] s = .ok (.d (.lst [x0, x1, x2, x3])) s := rfl
theorem tupU4 (x0 x1 x2 x3 : D) : tupU [.d x0, .d x1, .d x2, .d x3] = some (.d (.tup [x0, x1, x2, x3])) := rfl
theorem mkLv5 (s : Stk) (x0 x1 x2 x3 x4 : D) : mkL .val [.d x0, .d x1, .d x2, .d x3, .d x4] s = .ok (.d (.lst [x0, x1, x2, x3, x4])) s := rfl
theorem tupU5 (x0 x1 x2 x3 x4 : D) : tupU [.d x0, .d x1, .d x2, .d x3, .d x4] = some (.d (.tup [x0, x1, x2, x3, x4])) := rfl
theorem mkLv6 (s : Stk) (x0 x1 x2 x3 x4 x5 : D) : mkL .val [.d x0, .d x1, .d x2, .d x3, .d x4, .d x5] s = .ok (.d (.lst [x0, x1, x2, x3, x4, x5])) s := rfl
theorem mkLv7 (s : Stk) (x0 x1 x2 x3 x4 x5 x6 : D) : mkL .val [.d x0, .d x1, .d x2, .d x3, .d x4, .d x5, .d x6] s = .ok (.d (.lst [x0, x1, x2, x3, x4, x5, x6])) s := rfl
theorem mkLv8 (s : Stk) (x0 x1 x2 x3 x4 x5 x6 x7 : D) : mkL .val [.d x0, .d x1, .d x2, .d x3, .d x4, .d x5, .d x6, .d x7] s = .ok (.d (.lst [x0, x1, x2, x3, x4, x5, x6, x7])) s := rfl
theorem mkLv9 (s : Stk) (x0 x1 x2 x3 x4 x5 x6 x7 x8 : D) : mkL .val [.d x0, .d x1, .d x2, .d x3, .d x4, .d x5, .d x6, .d x7, .d x8] s = .ok (.d (.lst [x0, x1, x2, x3, x4, x5, x6, x7, x8])) s := rfl
theorem mkLv10 (s : Stk) (x0 x1 x2 x3 x4 x5 x6 x7 x8 x9 : D) : mkL .val [.d x0, .d x1, .d x2, .d x3, .d x4, .d x5, .d x6, .d x7, .d x8, .d x9] s = .ok (.d (.lst [x0, x1, x2, x3, x4, x5, x6, x7, x8, x9])) s := rfl
/-- _law_wrong_kinds -/
def zz : D := .str [122, 122, 122]
def wk0 (g : S) : List D := [.non, zz, .tup [zz], .lst [zz, .lst [.str g]], .tup [zz, .lst [.str g], .int 0], .tup [zz, .non], .tup [zz, .lst []], .tup [zz, .tup [.str g]], .tup [zz, .lst [.str g, .str g]], .tup [zz, .lst [zz]]]
def wk1 (g : S) : List D := ([.str [], .str [90, 122], .str [49, 122], .str [122, 32, 122], .str [122, 122, 122, 122, 122, 122, 122, 122, 122, 122, 122, 122, 122], .non, .int 5] : List D).map fun o => .tup [o, .lst [.str g]]
def wk2 (kk : List (S × List S)) (at_ : Nat) (g : S) : List D := match at_ with
  | 0 => []
  | n + 1 => [.tup [.str (kk.getD n ([], [])).1, .lst [.str g]], .tup [.str (kk.getD 0 ([], [])).1, .lst [.str g]]]
structure HL (P : Pg) : Prop extends HJ P where
  wrong : P.fn 263 = some f__law_wrong_kinds
theorem ix_ks (s : Stk) (kk : List (S × List S)) (i : Nat) (h : i < kk.length) : ixU s (.d (.lst (ksD kk))) (.d (.int (i : Int))) = some (.d (.tup [.str (kk.getD i ([], [])).1, strD (kk.getD i ([], [])).2])) := by
  rw [ix_lst, ksD, List.map_map, atI_map, atI_nat, List.getElem?_eq_getElem h, List.getD_eq_getElem?_getD, List.getElem?_eq_getElem h]; rfl
theorem wrong_eq (H : HL P) (kk : List (S × List S)) (n : Nat) (hn : n ≤ kk.length) (g : S) (k : Nat) (rs : List (List Cell)) :
    call P (k + 1) 263 [.d (.lst (ksD kk)), .d (.int n), .d (.str g)] ⟨rs, []⟩ = .ok (.d (.lst (wk0 g ++ wk1 g ++ wk2 kk n g))) ⟨rs, []⟩ := by
  rw [call_eq H.wrong rfl]
  have ef : (l__law_wrong_kinds_0 : St) = .for (.name 4) (.of (.lst .val [.lit (.str []), .lit (.str [90, 122]), .lit (.str [49, 122]), .lit (.str [122, 32, 122]), .lit (.str [122, 122, 122, 122, 122, 122, 122, 122, 122, 122, 122, 122, 122]), .lit (.non), .lit (.int 5)])) [.exp (.bm .append (.var 3) [.tup [.var 4, .lst .val [.var 2]]])] := rfl
  have hb : ∀ (us : List U), us.length < 100 → us.length < big := fun us h => Nat.lt_trans h (by decide)
  have hb : ∀ (us : List U) (r : List Cell) (x : D), us.length < 100 → bmeth .append ⟨(.lst us :: r) :: rs, []⟩ (.r rs.length 0) [.d x] = .ok (.d .non) ⟨(.lst (us ++ [.d x]) :: r) :: rs, []⟩ := fun us r x h => append_top _ _ _ _ (Nat.lt_trans h (by decide))
  have ha : ∀ (us : List D) (vs : List D), us.length + vs.length ≤ 100 → binU .cell .add ⟨[.lst (us.map .d)] :: rs, []⟩ (.r rs.length 0) (.d (.lst vs)) = .ok (.r rs.length 1) ⟨[.lst (us.map .d), .lst ((us ++ vs).map .d)] :: rs, []⟩ := fun us vs h => by
    have e : (us.map U.d).length + (vs.map U.d).length ≤ big := by simp [big]; omega
    simp only [binU, asInt, asStr, binL, lstW, lstOf, get_top, if_pos e, mkL, alloc, List.map_append]
    rfl
  have hf : ∀ (us : List D) (c : Cell), fin (.ret (.r rs.length 1) ⟨[c, .lst (us.map .d)] :: rs, []⟩) = .ok (.d (.lst us)) ⟨rs, []⟩ := fun us c => by
    have e1 : getL ([c, .lst (us.map U.d)] :: rs) rs.length 1 = some (.lst (us.map U.d)) := by rw [getL, if_pos rfl]; rfl
    have e2 := frz_fold 3 ⟨[c, .gone] :: rs, []⟩ us
    have e3 : setL ([c, .lst (us.map U.d)] :: rs) rs.length 1 .gone = [c, .gone] :: rs := by rw [setL, if_pos rfl]; rfl
    have e4 : frzU 4 ⟨[c, .lst (us.map U.d)] :: rs, []⟩ (.r rs.length 1) = .ok (.d (.lst us)) ⟨[c, .gone] :: rs, []⟩ := by
      simp only [frzU, frz, List.contains_nil, e1, Bool.false_eq_true, if_false, Stk.set, e3]
      exact congrArg (fun o : Option (List D × Stk) => (match (match o with | some (l, s') => some (D.lst l, s') | none => none) with | some (x, s') => RE.ok (U.d x) s' | none => RE.no : RE U)) e2
    simp only [fin, e4]
    rfl
  cases n with
  | zero =>
    simp -implicitDefEqProofs only [f__law_wrong_kinds, unlock_nx_mk, unlock_ret_mk, evSs, evS_set, evS_par, evS_aug, evS_exp, evS_ret, evS_retN, evS_ife, evS_raise, evS_setix, evS_setfld, evS_try, evS_cont, evS_brk, evS_pass, evE, evEs, evC, evI, evO, RE.bind_ok, RE.bind_ex, RE.blk_ok, RE.of_some, RE.of_none, binI, op_add, op_sub, RS.unlock_nx, RS.unlock_ret, RS.unlock_ex, RS.of_ok, RS.of_ex, RS.seq_nx, RS.seq_ret, RS.seq_ex, RS.seq_cnt, RS.turn_nx, RS.turn_cnt, RS.turn_ret, RS.turn_ex, getV_0, getV_s, set_0, set_s, ewipe_nil, ewipe_cons, truth_bl, truth_int, truth_lst, truth_non, isTy, len_str, len_lst, len_tup, leI, ltI, gtI, geI, eqI, neI, eqS, neS, ltS, leS, inSign, ninSign, isN_non, isnN_non, isN_int, isnN_int, isB, isnB, fin_ret, fin_nx, fin_ex, fin_cond, seq_cond, turn_cond, cond_ok, cond_bl, cond_f, cond_t, cond_ft, cond_or', cond_and', zip_lst, slc_lst, slc_str, ix_lst, ix_tup, ix_str, at_0, unlock_lock, unlock_same, unlock_mk, lock_nil, mkEnv_cons, mkEnv_nil_0, mkEnv_nil_s, Nat.reduceSub, Nat.sub_self, Nat.reduceAdd, Nat.add_zero, beq_self_eq_true, Bool.not_true, Bool.not_false, cond_true, cond_false, bind_name, bind_two_one, bind_two_many, asInt, List.map_cons, List.map_nil, Bool.or_true, Bool.true_or, Bool.or_false, Bool.false_or, Bool.and_true, Bool.true_and, Bool.and_false, Bool.false_and, walk_lst, walk_tup, walk_str, lkOf_d, List.map_map, Function.comp_def, reduceCtorEq, ix_scr, len_scr, int_int, int_bl, tyS_l, tyS_b, tyS_i, Option.map_some, lstOf_lst, mkL_cell0, alloc_0, mkLv0, mkLv1, mkLv2, mkLv3, mkLv4, mkLv5, mkLv6, mkLv7, mkLv8, mkLv9, mkLv10, tupU0, tupU1, tupU2, tupU3, tupU4, tupU5]
    rw [ef, evS_for]
    simp -implicitDefEqProofs only [unlock_nx_mk, unlock_ret_mk, evSs, evS_set, evS_par, evS_aug, evS_exp, evS_ret, evS_retN, evS_ife, evS_raise, evS_setix, evS_setfld, evS_try, evS_cont, evS_brk, evS_pass, evE, evEs, evC, evI, evO, RE.bind_ok, RE.bind_ex, RE.blk_ok, RE.of_some, RE.of_none, binI, op_add, op_sub, RS.unlock_nx, RS.unlock_ret, RS.unlock_ex, RS.of_ok, RS.of_ex, RS.seq_nx, RS.seq_ret, RS.seq_ex, RS.seq_cnt, RS.turn_nx, RS.turn_cnt, RS.turn_ret, RS.turn_ex, getV_0, getV_s, set_0, set_s, ewipe_nil, ewipe_cons, truth_bl, truth_int, truth_lst, truth_non, isTy, len_str, len_lst, len_tup, leI, ltI, gtI, geI, eqI, neI, eqS, neS, ltS, leS, inSign, ninSign, isN_non, isnN_non, isN_int, isnN_int, isB, isnB, fin_ret, fin_nx, fin_ex, fin_cond, seq_cond, turn_cond, cond_ok, cond_bl, cond_f, cond_t, cond_ft, cond_or', cond_and', zip_lst, slc_lst, slc_str, ix_lst, ix_tup, ix_str, at_0, unlock_lock, unlock_same, unlock_mk, lock_nil, mkEnv_cons, mkEnv_nil_0, mkEnv_nil_s, Nat.reduceSub, Nat.sub_self, Nat.reduceAdd, Nat.add_zero, beq_self_eq_true, Bool.not_true, Bool.not_false, cond_true, cond_false, bind_name, bind_two_one, bind_two_many, asInt, List.map_cons, List.map_nil, Bool.or_true, Bool.true_or, Bool.or_false, Bool.false_or, Bool.and_true, Bool.true_and, Bool.and_false, Bool.false_and, walk_lst, walk_tup, walk_str, lkOf_d, List.map_map, Function.comp_def, reduceCtorEq, ix_scr, len_scr, int_int, int_bl, tyS_l, tyS_b, tyS_i, Option.map_some, lstOf_lst, mkL_cell0, alloc_0, mkLv0, mkLv1, mkLv2, mkLv3, mkLv4, mkLv5, mkLv6, mkLv7, mkLv8, mkLv9, mkLv10, tupU0, tupU1, tupU2, tupU3, tupU4, tupU5, forL, bmOk_top, hb, List.length_cons, List.length_nil, Nat.reduceLT, List.cons_append, List.nil_append, Int.natCast_zero, Int.lt_irrefl, decide_false]
    exact fin_top (wk0 g ++ wk1 g) [] rs
  | succ n =>
    have e1 : atI ((ksD kk).map U.d) (((n + 1 : Nat) : Int) - 1) = some (.d (.tup [.str (kk.getD n ([], [])).1, strD (kk.getD n ([], [])).2])) := by
      have := ix_ks ⟨[], []⟩ kk n (by omega)
      rw [ix_lst] at this
      rw [← this]
      congr 1
      omega
    have e2 : atI ((ksD kk).map U.d) 0 = some (.d (.tup [.str (kk.getD 0 ([], [])).1, strD (kk.getD 0 ([], [])).2])) := ix_ks ⟨[], []⟩ kk 0 (by omega)
    have e3 : decide ((0 : Int) < ((n + 1 : Nat) : Int)) = true := decide_eq_true (by omega)
    have ha' := ha (wk0 g ++ wk1 g) (wk2 kk (n + 1) g) (by simp [wk0, wk1, wk2])
    simp only [wk0, wk1, wk2, zz, List.map_cons, List.map_nil, List.cons_append, List.nil_append] at ha'
    simp -implicitDefEqProofs only [f__law_wrong_kinds, unlock_nx_mk, unlock_ret_mk, evSs, evS_set, evS_par, evS_aug, evS_exp, evS_ret, evS_retN, evS_ife, evS_raise, evS_setix, evS_setfld, evS_try, evS_cont, evS_brk, evS_pass, evE, evEs, evC, evI, evO, RE.bind_ok, RE.bind_ex, RE.blk_ok, RE.of_some, RE.of_none, binI, op_add, op_sub, RS.unlock_nx, RS.unlock_ret, RS.unlock_ex, RS.of_ok, RS.of_ex, RS.seq_nx, RS.seq_ret, RS.seq_ex, RS.seq_cnt, RS.turn_nx, RS.turn_cnt, RS.turn_ret, RS.turn_ex, getV_0, getV_s, set_0, set_s, ewipe_nil, ewipe_cons, truth_bl, truth_int, truth_lst, truth_non, isTy, len_str, len_lst, len_tup, leI, ltI, gtI, geI, eqI, neI, eqS, neS, ltS, leS, inSign, ninSign, isN_non, isnN_non, isN_int, isnN_int, isB, isnB, fin_ret, fin_nx, fin_ex, fin_cond, seq_cond, turn_cond, cond_ok, cond_bl, cond_f, cond_t, cond_ft, cond_or', cond_and', zip_lst, slc_lst, slc_str, ix_lst, ix_tup, ix_str, at_0, unlock_lock, unlock_same, unlock_mk, lock_nil, mkEnv_cons, mkEnv_nil_0, mkEnv_nil_s, Nat.reduceSub, Nat.sub_self, Nat.reduceAdd, Nat.add_zero, beq_self_eq_true, Bool.not_true, Bool.not_false, cond_true, cond_false, bind_name, bind_two_one, bind_two_many, asInt, List.map_cons, List.map_nil, Bool.or_true, Bool.true_or, Bool.or_false, Bool.false_or, Bool.and_true, Bool.true_and, Bool.and_false, Bool.false_and, walk_lst, walk_tup, walk_str, lkOf_d, List.map_map, Function.comp_def, reduceCtorEq, ix_scr, len_scr, int_int, int_bl, tyS_l, tyS_b, tyS_i, Option.map_some, lstOf_lst, mkL_cell0, alloc_0, mkLv0, mkLv1, mkLv2, mkLv3, mkLv4, mkLv5, mkLv6, mkLv7, mkLv8, mkLv9, mkLv10, tupU0, tupU1, tupU2, tupU3, tupU4, tupU5]
    rw [ef, evS_for]
    simp -implicitDefEqProofs only [unlock_nx_mk, unlock_ret_mk, evSs, evS_set, evS_par, evS_aug, evS_exp, evS_ret, evS_retN, evS_ife, evS_raise, evS_setix, evS_setfld, evS_try, evS_cont, evS_brk, evS_pass, evE, evEs, evC, evI, evO, RE.bind_ok, RE.bind_ex, RE.blk_ok, RE.of_some, RE.of_none, binI, op_add, op_sub, RS.unlock_nx, RS.unlock_ret, RS.unlock_ex, RS.of_ok, RS.of_ex, RS.seq_nx, RS.seq_ret, RS.seq_ex, RS.seq_cnt, RS.turn_nx, RS.turn_cnt, RS.turn_ret, RS.turn_ex, getV_0, getV_s, set_0, set_s, ewipe_nil, ewipe_cons, truth_bl, truth_int, truth_lst, truth_non, isTy, len_str, len_lst, len_tup, leI, ltI, gtI, geI, eqI, neI, eqS, neS, ltS, leS, inSign, ninSign, isN_non, isnN_non, isN_int, isnN_int, isB, isnB, fin_ret, fin_nx, fin_ex, fin_cond, seq_cond, turn_cond, cond_ok, cond_bl, cond_f, cond_t, cond_ft, cond_or', cond_and', zip_lst, slc_lst, slc_str, ix_lst, ix_tup, ix_str, at_0, unlock_lock, unlock_same, unlock_mk, lock_nil, mkEnv_cons, mkEnv_nil_0, mkEnv_nil_s, Nat.reduceSub, Nat.sub_self, Nat.reduceAdd, Nat.add_zero, beq_self_eq_true, Bool.not_true, Bool.not_false, cond_true, cond_false, bind_name, bind_two_one, bind_two_many, asInt, List.map_cons, List.map_nil, Bool.or_true, Bool.true_or, Bool.or_false, Bool.false_or, Bool.and_true, Bool.true_and, Bool.and_false, Bool.false_and, walk_lst, walk_tup, walk_str, lkOf_d, List.map_map, Function.comp_def, reduceCtorEq, ix_scr, len_scr, int_int, int_bl, tyS_l, tyS_b, tyS_i, Option.map_some, lstOf_lst, mkL_cell0, alloc_0, mkLv0, mkLv1, mkLv2, mkLv3, mkLv4, mkLv5, mkLv6, mkLv7, mkLv8, mkLv9, mkLv10, tupU0, tupU1, tupU2, tupU3, tupU4, tupU5, forL, bmOk_top, hb, List.length_cons, List.length_nil, Nat.reduceLT, List.cons_append, List.nil_append, e1, e2, e3, ha']
    exact hf (wk0 g ++ wk1 g ++ wk2 kk (n + 1) g) _
end Z
end

section
set_option autoImplicit false
set_option linter.all false
set_option maxRecDepth 100000
namespace Z
open Z.Law
variable {P : Pg}
theorem digG_z (scr : List Int) (n most : Nat) : ∀ g ∈ digG scr n most, g < ZZZ := fun g hg => words_z _ _ _ ((sortS_perm _).mem_iff.mp hg)
theorem wk_ok {gs : List S} {kk : List (S × List S)} (G : Dg gs kk) (hz : ∀ g ∈ gs, g < ZZZ) (n : Nat) (hn : n ≤ kk.length) (g : S) :
    ∀ x ∈ wk0 g ++ wk1 g ++ wk2 kk n g, kindOk x = true ∧ (rightK gs x = false ∨ (∃ z b, x = .tup [.str z, b] ∧ ∃ p, (kk.take n).getLast? = some p ∧ ¬ p.1 < z)) := by
  intro x hx
  rw [List.mem_append, List.mem_append] at hx
  rcases hx with (hx | hx) | hx
  · simp only [wk0, List.mem_cons, List.not_mem_nil, or_false] at hx
    have hzn : gs.contains ZZZ = false := by
      cases e : gs.contains ZZZ with
      | false => rfl
      | true => exact absurd (hz _ (List.contains_iff_mem.mp e)) (s_irr _)
    rcases hx with rfl | rfl | rfl | rfl | rfl | rfl | rfl | rfl | rfl | rfl
    · exact ⟨rfl, .inl rfl⟩
    · exact ⟨rfl, .inl rfl⟩
    · exact ⟨rfl, .inl rfl⟩
    · exact ⟨rfl, .inl rfl⟩
    · exact ⟨rfl, .inl rfl⟩
    · exact ⟨rfl, .inl (by rw [rightK, show someOf gs .non = false from rfl, Bool.and_false])⟩
    · exact ⟨rfl, .inl (by rw [rightK, show someOf gs (.lst []) = false by simp [someOf], Bool.and_false])⟩
    · exact ⟨rfl, .inl (by rw [rightK, show someOf gs (.tup [.str g]) = false from rfl, Bool.and_false])⟩
    · exact ⟨rfl, .inl (by
        rw [rightK]
        have : areNames (.lst [.str g, .str g]) = false := by
          have := asc_two g []
          simp only [List.nil_append] at this
          rw [areNames, show [D.str g, D.str g] = [g, g].map D.str from rfl, txt_map, this, Bool.and_false]
        rw [someOf, this, Bool.false_and, Bool.false_and, Bool.and_false])⟩
    · exact ⟨rfl, .inl (by
        rw [rightK, someOf]
        have : (([zz] : List D).filterMap txt) = [ZZZ] := rfl
        rw [this, List.all_cons, hzn, Bool.false_and, Bool.and_false, Bool.and_false])⟩
  · simp only [wk1, List.map_cons, List.map_nil, List.mem_cons, List.not_mem_nil, or_false] at hx
    rcases hx with rfl | rfl | rfl | rfl | rfl | rfl | rfl
    all_goals exact ⟨rfl, .inl (by
      rw [rightK, Bool.and_eq_false_iff]
      left
      decide +kernel)⟩
  · cases n with
    | zero => cases hx
    | succ n =>
      have hl : (kk.take (n + 1)).getLast? = some (kk.getD n ([], [])) := by
        rw [List.getLast?_eq_getElem?, List.length_take, Nat.min_eq_left hn, Nat.add_sub_cancel, List.getElem?_take_of_lt (by omega), List.getD_eq_getElem?_getD, List.getElem?_eq_getElem (by omega)]; rfl
      simp only [wk2, List.mem_cons, List.not_mem_nil, or_false] at hx
      rcases hx with rfl | rfl
      · exact ⟨rfl, .inr ⟨_, _, rfl, _, hl, s_irr _⟩⟩
      · refine ⟨rfl, .inr ⟨_, _, rfl, _, hl, ?_⟩⟩
        cases n with
        | zero => exact s_irr _
        | succ n =>
          have := List.pairwise_iff_getElem.mp G.kp 0 (n + 1) (by simp; omega) (by simp; omega) (by omega)
          simp only [List.getElem_map] at this
          rw [List.getD_eq_getElem?_getD, List.getD_eq_getElem?_getD, List.getElem?_eq_getElem (show n + 1 < kk.length by omega), List.getElem?_eq_getElem (show 0 < kk.length by omega)]
          exact fun h => s_irr _ (List.lt_trans h this)
theorem at_refused {gs : List S} {kk : List (S × List S)} (G : Dg gs kk) (n : Nat) (hn : n ≤ kk.length) (x : D) (rest : List D) (hr : n + 1 + rest.length ≤ 10) (h : rightK gs x = false ∨ (∃ z b, x = .tup [.str z, b] ∧ ∃ p, (kk.take n).getLast? = some p ∧ ¬ p.1 < z)) :
    refusal (strD gs) (.lst (ksD (kk.take n) ++ x :: rest)) = some (n : Int) := by
  have e := firstWrong_at (G.take n) x rest h
  rw [refusal_ks G, e, if_neg (by simp [ksD]; omega), List.length_take, Nat.min_eq_left hn]
  rfl
theorem at_takes {gs : List S} {kk : List (S × List S)} (G : Dg gs kk) (n : Nat) (hn : n ≤ kk.length) (x : D) (rest : List D) (hr : n + 1 + rest.length ≤ 10) (hx : kindOk x = true) (hrest : rest.all kindOk = true) (h : rightK gs x = false ∨ (∃ z b, x = .tup [.str z, b] ∧ ∃ p, (kk.take n).getLast? = some p ∧ ¬ p.1 < z)) :
    Takes (strD gs) (.lst (ksD (kk.take n) ++ x :: rest)) :=
  takes_some (at_refused G n hn x rest hr h) (flat_strD _) (by rw [kindsOk, List.all_append, ksD_ok, List.all_cons, hx, hrest]; rfl)
def abck : S := [97, 98, 99, 100, 101, 102, 103, 104, 105, 106, 107]
def manyK (g : S) : List (S × List S) := abck.map fun c => ([107, c], [g])
theorem many_dg {gs : List S} {kk : List (S × List S)} (G : Dg gs kk) (g : S) (hg : g ∈ gs) : Dg gs ((manyK g).take 10) := by
  have hs : ∀ p ∈ (manyK g).take 10, p.2 = [g] ∧ nameS p.1 = true := fun p h => by
    have := List.mem_of_mem_take h
    obtain ⟨c, hc, rfl⟩ := List.mem_map.mp this
    refine ⟨rfl, ?_⟩
    have q : ∀ c ∈ abck, nameS [107, c] = true := by decide +kernel
    exact q c hc
  refine ⟨G.g0, G.g8, G.gp, G.gn, by simp [manyK, abck], ?_, fun p h => (hs p h).2, fun p h => by rw [(hs p h).1]; simp, fun p h => by rw [(hs p h).1]; simp, fun p h => by rw [(hs p h).1]; simp [hg]⟩
  simp only [manyK, abck, List.map_cons, List.map_nil, List.take_succ_cons, List.take_zero]
  decide +kernel
theorem abc_dg : Dg [[97], [98], [99], [100], [101], [102], [103], [104]] [] := by
  refine ⟨by decide, by decide, by decide +kernel, by decide +kernel, by decide, by simp, ?_, ?_, ?_, ?_⟩ <;> intro p h <;> cases h
theorem zz_dg {gs : List S} {kk : List (S × List S)} (G : Dg gs kk) (hz : ∀ p ∈ kk, p.1 < ZZZ) (n : Nat) (hn : n ≤ 9) : Dg gs (kk.take n ++ [(ZZZ, gs)]) := by
  have T := G.take n
  refine ⟨G.g0, G.g8, G.gp, G.gn, by simp; omega, ?_, ?_, ?_, ?_, ?_⟩
  · rw [List.map_append, List.pairwise_append]
    refine ⟨T.kp, by simp, fun a ha b hb => ?_⟩
    obtain ⟨p, hp, rfl⟩ := List.mem_map.mp ha
    simp at hb
    subst hb
    exact hz p (List.mem_of_mem_take hp)
  · intro p hp
    rcases List.mem_append.mp hp with h | h
    · exact T.kn p h
    · rw [List.mem_singleton] at h; subst h; exact (by decide +kernel : nameS ZZZ = true)
  · intro p hp
    rcases List.mem_append.mp hp with h | h
    · exact T.m0 p h
    · rw [List.mem_singleton] at h; subst h; exact List.length_pos_iff.mp G.g0
  · intro p hp
    rcases List.mem_append.mp hp with h | h
    · exact T.mp p h
    · rw [List.mem_singleton] at h; subst h; exact G.gp
  · intro p hp
    rcases List.mem_append.mp hp with h | h
    · exact T.ms p h
    · rw [List.mem_singleton] at h; subst h; exact fun g h => h

/-! ### the law -/
structure HM (P : Pg) : Prop extends HL P where
  law : P.fn 667 = some f_law_v69
def atK (scr : List Int) (kk : List (S × List S)) : Nat := (nsAt (nums scr 3 1) 0 % (((min kk.length 9 : Nat) : Int) + 1)).toNat
theorem atK_le (scr : List Int) (kk : List (S × List S)) : atK scr kk ≤ kk.length ∧ atK scr kk ≤ 9 := by
  have h1 : 0 ≤ nsAt (nums scr 3 1) 0 % (((min kk.length 9 : Nat) : Int) + 1) := Int.emod_nonneg _ (by omega)
  have h2 : nsAt (nums scr 3 1) 0 % (((min kk.length 9 : Nat) : Int) + 1) < ((min kk.length 9 : Nat) : Int) + 1 := Int.emod_lt_of_pos _ (by omega)
  rw [atK]
  omega
section
variable {scr : List Int} {gs : List S} {kk : List (S × List S)}
abbrev rho (scr : List Int) (gs : List S) (kk : List (S × List S)) (a b c d : Option U) : Env :=
  [some (.d (.scr scr)), some (.d (.int (atK scr kk : Nat))), some (.d (.lst (ksD (manyK (gs.getD 0 []))))), some (.d (.lst badN)), a, b, some (.d (strD gs)), some (.d (.lst (ksD kk))), c, d]
theorem isnI (s : Stk) (x : Int) : cmpU .isn s (.d (.int x)) (.d .non) = some true := rfl
/-- names that are none -/
theorem loop4 (H : HM P) (scr : List Int) (gs : List S) (kk : List (S × List S)) (k : Nat) (rs : List (List Cell)) (a b c d : Option U) :
    ∃ b', evS P (call P (k + 11)) l_law_v69_4 (rho scr gs kk a b c d) ⟨rs, []⟩ = .nx (rho scr gs kk a b' c d) ⟨rs, []⟩ := by
  rw [show l_law_v69_4 = .for (.name 5) (.of (.var 3)) (match l_law_v69_4 with | .for _ _ b => b | _ => []) from rfl, evS_for]
  simp -implicitDefEqProofs only [unlock_nx_mk, unlock_ret_mk, evSs, evS_set, evS_par, evS_aug, evS_exp, evS_ret, evS_retN, evS_ife, evS_raise, evS_setix, evS_setfld, evS_try, evS_cont, evS_brk, evS_pass, evE, evEs, evC, evI, evO, RE.bind_ok, RE.bind_ex, RE.blk_ok, RE.of_some, RE.of_none, binI, op_add, op_sub, RS.unlock_nx, RS.unlock_ret, RS.unlock_ex, RS.of_ok, RS.of_ex, RS.seq_nx, RS.seq_ret, RS.seq_ex, RS.seq_cnt, RS.turn_nx, RS.turn_cnt, RS.turn_ret, RS.turn_ex, getV_0, getV_s, set_0, set_s, ewipe_nil, ewipe_cons, truth_bl, truth_int, truth_lst, truth_non, isTy, len_str, len_lst, len_tup, leI, ltI, gtI, geI, eqI, neI, eqS, neS, ltS, leS, inSign, ninSign, isN_non, isnN_non, isN_int, isnN_int, isB, isnB, fin_ret, fin_nx, fin_ex, fin_cond, seq_cond, turn_cond, cond_ok, cond_bl, cond_f, cond_t, cond_ft, cond_or', cond_and', zip_lst, slc_lst, slc_str, ix_lst, ix_tup, ix_str, at_0, unlock_lock, unlock_same, unlock_mk, lock_nil, mkEnv_cons, mkEnv_nil_0, mkEnv_nil_s, Nat.reduceSub, Nat.sub_self, Nat.reduceAdd, Nat.add_zero, beq_self_eq_true, Bool.not_true, Bool.not_false, cond_true, cond_false, bind_name, bind_two_one, bind_two_many, asInt, List.map_cons, List.map_nil, Bool.or_true, Bool.true_or, Bool.or_false, Bool.false_or, Bool.and_true, Bool.true_and, Bool.and_false, Bool.false_and, walk_lst, walk_tup, walk_str, lkOf_d, List.map_map, Function.comp_def, reduceCtorEq, ix_scr, len_scr, int_int, int_bl, tyS_l, tyS_b, tyS_i, Option.map_some, lstOf_lst, mkL_cell0, alloc_0]
  obtain ⟨ρ', e, b', rfl⟩ := forL_same (F := fun x ρ s => RS.of (RE.of (bindT (.name 5) x ρ) s) fun ρ1 s => evSs P (call P (k + 11)) (match l_law_v69_4 with | .for _ _ b => b | _ => []) ρ1 s) (fun x : D => Im.one (.d x)) (fun ρ => ∃ b, ρ = rho scr gs kk a b c d) ⟨rs, []⟩ badN (rho scr gs kk a b c d) ⟨_, rfl⟩ fun x hx ρ ⟨b, hb⟩ => by
      subst hb
      have e1 := is_name_eq H.toHN x (badN_no x hx).2 ⟨rs, []⟩ (k + 10)
      rw [(badN_no x hx).1] at e1
      simp -implicitDefEqProofs only [unlock_nx_mk, unlock_ret_mk, evSs, evS_set, evS_par, evS_aug, evS_exp, evS_ret, evS_retN, evS_ife, evS_raise, evS_setix, evS_setfld, evS_try, evS_cont, evS_brk, evS_pass, evE, evEs, evC, evI, evO, RE.bind_ok, RE.bind_ex, RE.blk_ok, RE.of_some, RE.of_none, binI, op_add, op_sub, RS.unlock_nx, RS.unlock_ret, RS.unlock_ex, RS.of_ok, RS.of_ex, RS.seq_nx, RS.seq_ret, RS.seq_ex, RS.seq_cnt, RS.turn_nx, RS.turn_cnt, RS.turn_ret, RS.turn_ex, getV_0, getV_s, set_0, set_s, ewipe_nil, ewipe_cons, truth_bl, truth_int, truth_lst, truth_non, isTy, len_str, len_lst, len_tup, leI, ltI, gtI, geI, eqI, neI, eqS, neS, ltS, leS, inSign, ninSign, isN_non, isnN_non, isN_int, isnN_int, isB, isnB, fin_ret, fin_nx, fin_ex, fin_cond, seq_cond, turn_cond, cond_ok, cond_bl, cond_f, cond_t, cond_ft, cond_or', cond_and', zip_lst, slc_lst, slc_str, ix_lst, ix_tup, ix_str, at_0, unlock_lock, unlock_same, unlock_mk, lock_nil, mkEnv_cons, mkEnv_nil_0, mkEnv_nil_s, Nat.reduceSub, Nat.sub_self, Nat.reduceAdd, Nat.add_zero, beq_self_eq_true, Bool.not_true, Bool.not_false, cond_true, cond_false, bind_name, bind_two_one, bind_two_many, asInt, List.map_cons, List.map_nil, Bool.or_true, Bool.true_or, Bool.or_false, Bool.false_or, Bool.and_true, Bool.true_and, Bool.and_false, Bool.false_and, walk_lst, walk_tup, walk_str, lkOf_d, List.map_map, Function.comp_def, reduceCtorEq, ix_scr, len_scr, int_int, int_bl, tyS_l, tyS_b, tyS_i, Option.map_some, lstOf_lst, mkL_cell0, alloc_0, l_law_v69_4, e1]
      exact ⟨_, .inl rfl, _, rfl⟩
  rw [e]
  exact ⟨b', rfl⟩

theorem loop5 (H : HM P) (scr : List Int) (gs : List S) (kk : List (S × List S)) (G : Dg gs kk) (k : Nat) (rs : List (List Cell)) (a b c d : Option U) :
    ∃ b', evS P (call P (k + 11)) l_law_v69_5 (rho scr gs kk a b c d) ⟨rs, []⟩ = .nx (rho scr gs kk a b' c d) ⟨rs, []⟩ := by
  rw [show l_law_v69_5 = .for (.name 5) (.of (.bin .val .add (.var 6) (.lst .val [.lit (.str [97]), .lit (.str [122, 57]), .lit (.str [97, 98, 99, 100, 101, 102, 103, 104, 105, 106, 107, 108])]))) (match l_law_v69_5 with | .for _ _ b => b | _ => []) from rfl, evS_for]
  have e0 : ∀ s, binU .val .add s (.d (strD gs)) (.d (.lst [.str [97], .str [122, 57], .str [97, 98, 99, 100, 101, 102, 103, 104, 105, 106, 107, 108]])) = .ok (.d (.lst (gs.map .str ++ [.str [97], .str [122, 57], .str [97, 98, 99, 100, 101, 102, 103, 104, 105, 106, 107, 108]]))) s := fun s => addL s _ _ (by have := G.g8; simp; omega)
  simp -implicitDefEqProofs only [unlock_nx_mk, unlock_ret_mk, evSs, evS_set, evS_par, evS_aug, evS_exp, evS_ret, evS_retN, evS_ife, evS_raise, evS_setix, evS_setfld, evS_try, evS_cont, evS_brk, evS_pass, evE, evEs, evC, evI, evO, RE.bind_ok, RE.bind_ex, RE.blk_ok, RE.of_some, RE.of_none, binI, op_add, op_sub, RS.unlock_nx, RS.unlock_ret, RS.unlock_ex, RS.of_ok, RS.of_ex, RS.seq_nx, RS.seq_ret, RS.seq_ex, RS.seq_cnt, RS.turn_nx, RS.turn_cnt, RS.turn_ret, RS.turn_ex, getV_0, getV_s, set_0, set_s, ewipe_nil, ewipe_cons, truth_bl, truth_int, truth_lst, truth_non, isTy, len_str, len_lst, len_tup, leI, ltI, gtI, geI, eqI, neI, eqS, neS, ltS, leS, inSign, ninSign, isN_non, isnN_non, isN_int, isnN_int, isB, isnB, fin_ret, fin_nx, fin_ex, fin_cond, seq_cond, turn_cond, cond_ok, cond_bl, cond_f, cond_t, cond_ft, cond_or', cond_and', zip_lst, slc_lst, slc_str, ix_lst, ix_tup, ix_str, at_0, unlock_lock, unlock_same, unlock_mk, lock_nil, mkEnv_cons, mkEnv_nil_0, mkEnv_nil_s, Nat.reduceSub, Nat.sub_self, Nat.reduceAdd, Nat.add_zero, beq_self_eq_true, Bool.not_true, Bool.not_false, cond_true, cond_false, bind_name, bind_two_one, bind_two_many, asInt, List.map_cons, List.map_nil, Bool.or_true, Bool.true_or, Bool.or_false, Bool.false_or, Bool.and_true, Bool.true_and, Bool.and_false, Bool.false_and, walk_lst, walk_tup, walk_str, lkOf_d, List.map_map, Function.comp_def, reduceCtorEq, ix_scr, len_scr, int_int, int_bl, tyS_l, tyS_b, tyS_i, Option.map_some, lstOf_lst, mkL_cell0, alloc_0, mkLv0, mkLv1, mkLv2, mkLv3, mkLv4, mkLv5, mkLv6, mkLv7, mkLv8, mkLv9, mkLv10, tupU0, tupU1, tupU2, tupU3, tupU4, tupU5, e0]
  obtain ⟨ρ', e, b', rfl⟩ := forL_same (F := fun x ρ s => RS.of (RE.of (bindT (.name 5) x ρ) s) fun ρ1 s => evSs P (call P (k + 11)) (match l_law_v69_5 with | .for _ _ b => b | _ => []) ρ1 s) (fun x : D => Im.one (.d x)) (fun ρ => ∃ b, ρ = rho scr gs kk a b c d) ⟨rs, []⟩ (gs.map .str ++ [.str [97], .str [122, 57], .str [97, 98, 99, 100, 101, 102, 103, 104, 105, 106, 107, 108]]) (rho scr gs kk a b c d) ⟨_, rfl⟩ fun x hx ρ ⟨b, hb⟩ => by
      subst hb
      have hx2 : notObj x = true ∧ isName x = true := by
        rcases List.mem_append.mp hx with h | h
        · obtain ⟨y, hy, rfl⟩ := List.mem_map.mp h
          exact ⟨rfl, G.gn y hy⟩
        · have q : ∀ y ∈ ([.str [97], .str [122, 57], .str [97, 98, 99, 100, 101, 102, 103, 104, 105, 106, 107, 108]] : List D), notObj y = true ∧ isName y = true := by decide +kernel
          exact q x h
      have e1 := is_name_eq H.toHN x hx2.1 ⟨rs, []⟩ (k + 10)
      rw [hx2.2] at e1
      simp -implicitDefEqProofs only [unlock_nx_mk, unlock_ret_mk, evSs, evS_set, evS_par, evS_aug, evS_exp, evS_ret, evS_retN, evS_ife, evS_raise, evS_setix, evS_setfld, evS_try, evS_cont, evS_brk, evS_pass, evE, evEs, evC, evI, evO, RE.bind_ok, RE.bind_ex, RE.blk_ok, RE.of_some, RE.of_none, binI, op_add, op_sub, RS.unlock_nx, RS.unlock_ret, RS.unlock_ex, RS.of_ok, RS.of_ex, RS.seq_nx, RS.seq_ret, RS.seq_ex, RS.seq_cnt, RS.turn_nx, RS.turn_cnt, RS.turn_ret, RS.turn_ex, getV_0, getV_s, set_0, set_s, ewipe_nil, ewipe_cons, truth_bl, truth_int, truth_lst, truth_non, isTy, len_str, len_lst, len_tup, leI, ltI, gtI, geI, eqI, neI, eqS, neS, ltS, leS, inSign, ninSign, isN_non, isnN_non, isN_int, isnN_int, isB, isnB, fin_ret, fin_nx, fin_ex, fin_cond, seq_cond, turn_cond, cond_ok, cond_bl, cond_f, cond_t, cond_ft, cond_or', cond_and', zip_lst, slc_lst, slc_str, ix_lst, ix_tup, ix_str, at_0, unlock_lock, unlock_same, unlock_mk, lock_nil, mkEnv_cons, mkEnv_nil_0, mkEnv_nil_s, Nat.reduceSub, Nat.sub_self, Nat.reduceAdd, Nat.add_zero, beq_self_eq_true, Bool.not_true, Bool.not_false, cond_true, cond_false, bind_name, bind_two_one, bind_two_many, asInt, List.map_cons, List.map_nil, Bool.or_true, Bool.true_or, Bool.or_false, Bool.false_or, Bool.and_true, Bool.true_and, Bool.and_false, Bool.false_and, walk_lst, walk_tup, walk_str, lkOf_d, List.map_map, Function.comp_def, reduceCtorEq, ix_scr, len_scr, int_int, int_bl, tyS_l, tyS_b, tyS_i, Option.map_some, lstOf_lst, mkL_cell0, alloc_0, l_law_v69_5, e1]
      exact ⟨_, .inl rfl, _, rfl⟩
  rw [e]
  exact ⟨b', rfl⟩
theorem slc_take (kk : List (S × List S)) (n : Nat) : cut (ksD kk) none (some (n : Int)) = ksD (kk.take n) := by
  rw [cut_to, ksD, ← List.map_take]; rfl
theorem loop3 (H : HM P) (scr : List Int) (gs : List S) (kk : List (S × List S)) (G : Dg gs kk) (hz : ∀ g ∈ gs, g < ZZZ) (k : Nat) (rs : List (List Cell)) (a b c d : Option U) :
    ∃ a', evS P (call P (k + 11)) l_law_v69_3 (rho scr gs kk a b c d) ⟨rs, []⟩ = .nx (rho scr gs kk a' b c d) ⟨rs, []⟩ := by
  rw [show l_law_v69_3 = .for (.name 4) (.of (.call 263 [.var 7, .var 1, .ix (.var 6) (.lit (.int 0))])) (match l_law_v69_3 with | .for _ _ b => b | _ => []) from rfl, evS_for]
  have hn := atK_le scr kk
  have e0 : ∀ s, ixU s (.d (strD gs)) (.d (.int 0)) = some (.d (.str (gs.getD 0 []))) := fun s => ix_strs _ _ _ (by decide) (by have := G.g0; omega)
  have e1 := wrong_eq H.toHL kk (atK scr kk) hn.1 (gs.getD 0 []) (k + 10) rs
  simp -implicitDefEqProofs only [unlock_nx_mk, unlock_ret_mk, evSs, evS_set, evS_par, evS_aug, evS_exp, evS_ret, evS_retN, evS_ife, evS_raise, evS_setix, evS_setfld, evS_try, evS_cont, evS_brk, evS_pass, evE, evEs, evC, evI, evO, RE.bind_ok, RE.bind_ex, RE.blk_ok, RE.of_some, RE.of_none, binI, op_add, op_sub, RS.unlock_nx, RS.unlock_ret, RS.unlock_ex, RS.of_ok, RS.of_ex, RS.seq_nx, RS.seq_ret, RS.seq_ex, RS.seq_cnt, RS.turn_nx, RS.turn_cnt, RS.turn_ret, RS.turn_ex, getV_0, getV_s, set_0, set_s, ewipe_nil, ewipe_cons, truth_bl, truth_int, truth_lst, truth_non, isTy, len_str, len_lst, len_tup, leI, ltI, gtI, geI, eqI, neI, eqS, neS, ltS, leS, inSign, ninSign, isN_non, isnN_non, isN_int, isnN_int, isB, isnB, fin_ret, fin_nx, fin_ex, fin_cond, seq_cond, turn_cond, cond_ok, cond_bl, cond_f, cond_t, cond_ft, cond_or', cond_and', zip_lst, slc_lst, slc_str, ix_lst, ix_tup, ix_str, at_0, unlock_lock, unlock_same, unlock_mk, lock_nil, mkEnv_cons, mkEnv_nil_0, mkEnv_nil_s, Nat.reduceSub, Nat.sub_self, Nat.reduceAdd, Nat.add_zero, beq_self_eq_true, Bool.not_true, Bool.not_false, cond_true, cond_false, bind_name, bind_two_one, bind_two_many, asInt, List.map_cons, List.map_nil, Bool.or_true, Bool.true_or, Bool.or_false, Bool.false_or, Bool.and_true, Bool.true_and, Bool.and_false, Bool.false_and, walk_lst, walk_tup, walk_str, lkOf_d, List.map_map, Function.comp_def, reduceCtorEq, ix_scr, len_scr, int_int, int_bl, tyS_l, tyS_b, tyS_i, Option.map_some, lstOf_lst, mkL_cell0, alloc_0, e0, e1]
  obtain ⟨ρ', e, b', rfl⟩ := forL_same (F := fun x ρ s => RS.of (RE.of (bindT (.name 4) x ρ) s) fun ρ1 s => evSs P (call P (k + 11)) (match l_law_v69_3 with | .for _ _ b => b | _ => []) ρ1 s) (fun x : D => Im.one (.d x)) (fun ρ => ∃ a, ρ = rho scr gs kk a b c d) ⟨rs, []⟩ (wk0 (gs.getD 0 []) ++ wk1 (gs.getD 0 []) ++ wk2 kk (atK scr kk) (gs.getD 0 [])) (rho scr gs kk a b c d) ⟨_, rfl⟩ fun x hx ρ ⟨a, ha⟩ => by
      subst ha
      obtain ⟨h1, h2⟩ := wk_ok G hz (atK scr kk) hn.1 (gs.getD 0 []) x hx
      have r1 := refusal_eq H.toHR _ _ (at_takes G _ hn.1 x [] (by simp; omega) h1 rfl h2) rs (k + 3)
      rw [at_refused G _ hn.1 x [] (by simp; omega) h2] at r1
      have a1 : ∀ s, binU .val .add s (.d (.lst (ksD (kk.take (atK scr kk))))) (.d (.lst [x])) = .ok (.d (.lst (ksD (kk.take (atK scr kk)) ++ [x]))) s := fun s => addL s _ _ (by have := G.k10; simp [ksD]; omega)
      have a2 : ∀ s, binU .val .add s (.d (.lst (ksD (kk.take (atK scr kk))))) (.d (.lst [x, .non])) = .ok (.d (.lst (ksD (kk.take (atK scr kk)) ++ [x, .non]))) s := fun s => addL s _ _ (by have := G.k10; simp [ksD]; omega)
      simp only [optD] at r1
      by_cases h9 : atK scr kk < 9
      · have r2 := refusal_eq H.toHR _ _ (at_takes G _ hn.1 x [.non] (by simp; omega) h1 rfl h2) rs (k + 3)
        rw [at_refused G _ hn.1 x [.non] (by simp; omega) h2] at r2
        simp only [optD] at r2
        have l9 : decide (((atK scr kk : Nat) : Int) < 9) = true := decide_eq_true (by omega)
        simp -implicitDefEqProofs only [unlock_nx_mk, unlock_ret_mk, evSs, evS_set, evS_par, evS_aug, evS_exp, evS_ret, evS_retN, evS_ife, evS_raise, evS_setix, evS_setfld, evS_try, evS_cont, evS_brk, evS_pass, evE, evEs, evC, evI, evO, RE.bind_ok, RE.bind_ex, RE.blk_ok, RE.of_some, RE.of_none, binI, op_add, op_sub, RS.unlock_nx, RS.unlock_ret, RS.unlock_ex, RS.of_ok, RS.of_ex, RS.seq_nx, RS.seq_ret, RS.seq_ex, RS.seq_cnt, RS.turn_nx, RS.turn_cnt, RS.turn_ret, RS.turn_ex, getV_0, getV_s, set_0, set_s, ewipe_nil, ewipe_cons, truth_bl, truth_int, truth_lst, truth_non, isTy, len_str, len_lst, len_tup, leI, ltI, gtI, geI, eqI, neI, eqS, neS, ltS, leS, inSign, ninSign, isN_non, isnN_non, isN_int, isnN_int, isB, isnB, fin_ret, fin_nx, fin_ex, fin_cond, seq_cond, turn_cond, cond_ok, cond_bl, cond_f, cond_t, cond_ft, cond_or', cond_and', zip_lst, slc_lst, slc_str, ix_lst, ix_tup, ix_str, at_0, unlock_lock, unlock_same, unlock_mk, lock_nil, mkEnv_cons, mkEnv_nil_0, mkEnv_nil_s, Nat.reduceSub, Nat.sub_self, Nat.reduceAdd, Nat.add_zero, beq_self_eq_true, Bool.not_true, Bool.not_false, cond_true, cond_false, bind_name, bind_two_one, bind_two_many, asInt, List.map_cons, List.map_nil, Bool.or_true, Bool.true_or, Bool.or_false, Bool.false_or, Bool.and_true, Bool.true_and, Bool.and_false, Bool.false_and, walk_lst, walk_tup, walk_str, lkOf_d, List.map_map, Function.comp_def, reduceCtorEq, ix_scr, len_scr, int_int, int_bl, tyS_l, tyS_b, tyS_i, Option.map_some, lstOf_lst, mkL_cell0, alloc_0, mkLv0, mkLv1, mkLv2, mkLv3, mkLv4, mkLv5, mkLv6, mkLv7, mkLv8, mkLv9, mkLv10, tupU0, tupU1, tupU2, tupU3, tupU4, tupU5, l_law_v69_3, slc_take, a1, a2, r1, r2, l9]
        exact ⟨_, .inl rfl, _, rfl⟩
      · have l9 : decide (((atK scr kk : Nat) : Int) < 9) = false := decide_eq_false (by omega)
        simp -implicitDefEqProofs only [unlock_nx_mk, unlock_ret_mk, evSs, evS_set, evS_par, evS_aug, evS_exp, evS_ret, evS_retN, evS_ife, evS_raise, evS_setix, evS_setfld, evS_try, evS_cont, evS_brk, evS_pass, evE, evEs, evC, evI, evO, RE.bind_ok, RE.bind_ex, RE.blk_ok, RE.of_some, RE.of_none, binI, op_add, op_sub, RS.unlock_nx, RS.unlock_ret, RS.unlock_ex, RS.of_ok, RS.of_ex, RS.seq_nx, RS.seq_ret, RS.seq_ex, RS.seq_cnt, RS.turn_nx, RS.turn_cnt, RS.turn_ret, RS.turn_ex, getV_0, getV_s, set_0, set_s, ewipe_nil, ewipe_cons, truth_bl, truth_int, truth_lst, truth_non, isTy, len_str, len_lst, len_tup, leI, ltI, gtI, geI, eqI, neI, eqS, neS, ltS, leS, inSign, ninSign, isN_non, isnN_non, isN_int, isnN_int, isB, isnB, fin_ret, fin_nx, fin_ex, fin_cond, seq_cond, turn_cond, cond_ok, cond_bl, cond_f, cond_t, cond_ft, cond_or', cond_and', zip_lst, slc_lst, slc_str, ix_lst, ix_tup, ix_str, at_0, unlock_lock, unlock_same, unlock_mk, lock_nil, mkEnv_cons, mkEnv_nil_0, mkEnv_nil_s, Nat.reduceSub, Nat.sub_self, Nat.reduceAdd, Nat.add_zero, beq_self_eq_true, Bool.not_true, Bool.not_false, cond_true, cond_false, bind_name, bind_two_one, bind_two_many, asInt, List.map_cons, List.map_nil, Bool.or_true, Bool.true_or, Bool.or_false, Bool.false_or, Bool.and_true, Bool.true_and, Bool.and_false, Bool.false_and, walk_lst, walk_tup, walk_str, lkOf_d, List.map_map, Function.comp_def, reduceCtorEq, ix_scr, len_scr, int_int, int_bl, tyS_l, tyS_b, tyS_i, Option.map_some, lstOf_lst, mkL_cell0, alloc_0, mkLv0, mkLv1, mkLv2, mkLv3, mkLv4, mkLv5, mkLv6, mkLv7, mkLv8, mkLv9, mkLv10, tupU0, tupU1, tupU2, tupU3, tupU4, tupU5, l_law_v69_3, slc_take, a1, r1, l9]
        exact ⟨_, .inl rfl, _, rfl⟩
  rw [e]
  exact ⟨b', rfl⟩
theorem neg_lit (i : Int) (s : Stk) : RE.of (asInt (.d (.int i))) s = .ok i s := rfl
theorem tuple_lst (s : Stk) (l : List D) : bty .val .tuple s [.d (.lst l)] = .ok (.d (.tup l)) s := by
  simp only [bty, lstOf, pus_d]; rfl
def odd2 (gs : List S) (kk : List (S × List S)) : List D := [.non, .tup (ksD kk), .str [97], .int 5, .lst (ksD (manyK (gs.getD 0 [])))]
theorem odd2_no {gs : List S} {kk : List (S × List S)} (G : Dg gs kk) : ∀ x ∈ odd2 gs kk, refusal (strD gs) x = some (-2) ∧ kindsOk x = true := by
  intro x hx
  simp only [odd2, List.mem_cons, List.not_mem_nil, or_false] at hx
  have q : ∀ x, (match x with | .lst _ => false | _ => true) = true → refusal (strD gs) x = some (-2) := fun x h => by
    unfold refusal
    rw [G.graves, if_pos rfl]
    cases x <;> first | rfl | cases h
  rcases hx with rfl | rfl | rfl | rfl | rfl
  · exact ⟨q _ rfl, rfl⟩
  · exact ⟨q _ rfl, rfl⟩
  · exact ⟨q _ rfl, rfl⟩
  · exact ⟨q _ rfl, rfl⟩
  · exact ⟨by rw [refusal_ks G]; rfl, ksD_ok _⟩
theorem loop2 (H : HM P) (scr : List Int) (gs : List S) (kk : List (S × List S)) (G : Dg gs kk) (k : Nat) (rs : List (List Cell)) (a b c d : Option U) :
    ∃ a', evS P (call P (k + 11)) l_law_v69_2 (rho scr gs kk a b c d) ⟨rs, []⟩ = .nx (rho scr gs kk a' b c d) ⟨rs, []⟩ := by
  rw [show l_law_v69_2 = .for (.name 4) (.of (.lst .val [.lit (.non), .bt .val .tuple [.var 7], .lit (.str [97]), .lit (.int 5), .var 2])) (match l_law_v69_2 with | .for _ _ b => b | _ => []) from rfl, evS_for]
  simp -implicitDefEqProofs only [unlock_nx_mk, unlock_ret_mk, evSs, evS_set, evS_par, evS_aug, evS_exp, evS_ret, evS_retN, evS_ife, evS_raise, evS_setix, evS_setfld, evS_try, evS_cont, evS_brk, evS_pass, evE, evEs, evC, evI, evO, RE.bind_ok, RE.bind_ex, RE.blk_ok, RE.of_some, RE.of_none, binI, op_add, op_sub, RS.unlock_nx, RS.unlock_ret, RS.unlock_ex, RS.of_ok, RS.of_ex, RS.seq_nx, RS.seq_ret, RS.seq_ex, RS.seq_cnt, RS.turn_nx, RS.turn_cnt, RS.turn_ret, RS.turn_ex, getV_0, getV_s, set_0, set_s, ewipe_nil, ewipe_cons, truth_bl, truth_int, truth_lst, truth_non, isTy, len_str, len_lst, len_tup, leI, ltI, gtI, geI, eqI, neI, eqS, neS, ltS, leS, inSign, ninSign, isN_non, isnN_non, isN_int, isnN_int, isB, isnB, fin_ret, fin_nx, fin_ex, fin_cond, seq_cond, turn_cond, cond_ok, cond_bl, cond_f, cond_t, cond_ft, cond_or', cond_and', zip_lst, slc_lst, slc_str, ix_lst, ix_tup, ix_str, at_0, unlock_lock, unlock_same, unlock_mk, lock_nil, mkEnv_cons, mkEnv_nil_0, mkEnv_nil_s, Nat.reduceSub, Nat.sub_self, Nat.reduceAdd, Nat.add_zero, beq_self_eq_true, Bool.not_true, Bool.not_false, cond_true, cond_false, bind_name, bind_two_one, bind_two_many, asInt, List.map_cons, List.map_nil, Bool.or_true, Bool.true_or, Bool.or_false, Bool.false_or, Bool.and_true, Bool.true_and, Bool.and_false, Bool.false_and, walk_lst, walk_tup, walk_str, lkOf_d, List.map_map, Function.comp_def, reduceCtorEq, ix_scr, len_scr, int_int, int_bl, tyS_l, tyS_b, tyS_i, Option.map_some, lstOf_lst, mkL_cell0, alloc_0, mkLv0, mkLv1, mkLv2, mkLv3, mkLv4, mkLv5, mkLv6, mkLv7, mkLv8, mkLv9, mkLv10, tupU0, tupU1, tupU2, tupU3, tupU4, tupU5, tuple_lst]
  obtain ⟨ρ', e, b', rfl⟩ := forL_same (F := fun x ρ s => RS.of (RE.of (bindT (.name 4) x ρ) s) fun ρ1 s => evSs P (call P (k + 11)) (match l_law_v69_2 with | .for _ _ b => b | _ => []) ρ1 s) (fun x : D => Im.one (.d x)) (fun ρ => ∃ a, ρ = rho scr gs kk a b c d) ⟨rs, []⟩ (odd2 gs kk) (rho scr gs kk a b c d) ⟨_, rfl⟩ fun x hx ρ ⟨a, ha⟩ => by
      subst ha
      obtain ⟨h1, h2⟩ := odd2_no G x hx
      have r1 := refusal_eq H.toHR _ _ (takes_some h1 (flat_strD _) h2) rs (k + 3)
      rw [h1] at r1
      simp only [optD] at r1
      simp -implicitDefEqProofs only [unlock_nx_mk, unlock_ret_mk, evSs, evS_set, evS_par, evS_aug, evS_exp, evS_ret, evS_retN, evS_ife, evS_raise, evS_setix, evS_setfld, evS_try, evS_cont, evS_brk, evS_pass, evE, evEs, evC, evI, evO, RE.bind_ok, RE.bind_ex, RE.blk_ok, RE.of_some, RE.of_none, binI, op_add, op_sub, RS.unlock_nx, RS.unlock_ret, RS.unlock_ex, RS.of_ok, RS.of_ex, RS.seq_nx, RS.seq_ret, RS.seq_ex, RS.seq_cnt, RS.turn_nx, RS.turn_cnt, RS.turn_ret, RS.turn_ex, getV_0, getV_s, set_0, set_s, ewipe_nil, ewipe_cons, truth_bl, truth_int, truth_lst, truth_non, isTy, len_str, len_lst, len_tup, leI, ltI, gtI, geI, eqI, neI, eqS, neS, ltS, leS, inSign, ninSign, isN_non, isnN_non, isN_int, isnN_int, isB, isnB, fin_ret, fin_nx, fin_ex, fin_cond, seq_cond, turn_cond, cond_ok, cond_bl, cond_f, cond_t, cond_ft, cond_or', cond_and', zip_lst, slc_lst, slc_str, ix_lst, ix_tup, ix_str, at_0, unlock_lock, unlock_same, unlock_mk, lock_nil, mkEnv_cons, mkEnv_nil_0, mkEnv_nil_s, Nat.reduceSub, Nat.sub_self, Nat.reduceAdd, Nat.add_zero, beq_self_eq_true, Bool.not_true, Bool.not_false, cond_true, cond_false, bind_name, bind_two_one, bind_two_many, asInt, List.map_cons, List.map_nil, Bool.or_true, Bool.true_or, Bool.or_false, Bool.false_or, Bool.and_true, Bool.true_and, Bool.and_false, Bool.false_and, walk_lst, walk_tup, walk_str, lkOf_d, List.map_map, Function.comp_def, reduceCtorEq, ix_scr, len_scr, int_int, int_bl, tyS_l, tyS_b, tyS_i, Option.map_some, lstOf_lst, mkL_cell0, alloc_0, mkLv0, mkLv1, mkLv2, mkLv3, mkLv4, mkLv5, mkLv6, mkLv7, mkLv8, mkLv9, mkLv10, tupU0, tupU1, tupU2, tupU3, tupU4, tupU5, l_law_v69_2, r1, neg_lit]
      exact ⟨_, .inl rfl, _, rfl⟩
  simp -implicitDefEqProofs only [odd2, List.map_cons, List.map_nil] at e
  rw [e]
  exact ⟨b', rfl⟩
theorem loop1 (H : HM P) (scr : List Int) (gs : List S) (kk : List (S × List S)) (k : Nat) (rs : List (List Cell)) (x : D) (h1 : areGraves x = false) (h2 : flat1 x = true) (b c d : Option U) :
    ∃ c', evS P (call P (k + 11)) l_law_v69_1 (rho scr gs kk (some (.d x)) b c d) ⟨rs, []⟩ = .nx (rho scr gs kk (some (.d x)) b c' d) ⟨rs, []⟩ := by
  rw [show l_law_v69_1 = .for (.name 8) (.of (.lst .val [.var 7, .lit (.non)])) (match l_law_v69_1 with | .for _ _ b => b | _ => []) from rfl, evS_for]
  simp -implicitDefEqProofs only [unlock_nx_mk, unlock_ret_mk, evSs, evS_set, evS_par, evS_aug, evS_exp, evS_ret, evS_retN, evS_ife, evS_raise, evS_setix, evS_setfld, evS_try, evS_cont, evS_brk, evS_pass, evE, evEs, evC, evI, evO, RE.bind_ok, RE.bind_ex, RE.blk_ok, RE.of_some, RE.of_none, binI, op_add, op_sub, RS.unlock_nx, RS.unlock_ret, RS.unlock_ex, RS.of_ok, RS.of_ex, RS.seq_nx, RS.seq_ret, RS.seq_ex, RS.seq_cnt, RS.turn_nx, RS.turn_cnt, RS.turn_ret, RS.turn_ex, getV_0, getV_s, set_0, set_s, ewipe_nil, ewipe_cons, truth_bl, truth_int, truth_lst, truth_non, isTy, len_str, len_lst, len_tup, leI, ltI, gtI, geI, eqI, neI, eqS, neS, ltS, leS, inSign, ninSign, isN_non, isnN_non, isN_int, isnN_int, isB, isnB, fin_ret, fin_nx, fin_ex, fin_cond, seq_cond, turn_cond, cond_ok, cond_bl, cond_f, cond_t, cond_ft, cond_or', cond_and', zip_lst, slc_lst, slc_str, ix_lst, ix_tup, ix_str, at_0, unlock_lock, unlock_same, unlock_mk, lock_nil, mkEnv_cons, mkEnv_nil_0, mkEnv_nil_s, Nat.reduceSub, Nat.sub_self, Nat.reduceAdd, Nat.add_zero, beq_self_eq_true, Bool.not_true, Bool.not_false, cond_true, cond_false, bind_name, bind_two_one, bind_two_many, asInt, List.map_cons, List.map_nil, Bool.or_true, Bool.true_or, Bool.or_false, Bool.false_or, Bool.and_true, Bool.true_and, Bool.and_false, Bool.false_and, walk_lst, walk_tup, walk_str, lkOf_d, List.map_map, Function.comp_def, reduceCtorEq, ix_scr, len_scr, int_int, int_bl, tyS_l, tyS_b, tyS_i, Option.map_some, lstOf_lst, mkL_cell0, alloc_0, mkLv0, mkLv1, mkLv2, mkLv3, mkLv4, mkLv5, mkLv6, mkLv7, mkLv8, mkLv9, mkLv10, tupU0, tupU1, tupU2, tupU3, tupU4, tupU5]
  obtain ⟨ρ', e, b', rfl⟩ := forL_same (F := fun x ρ s => RS.of (RE.of (bindT (.name 8) x ρ) s) fun ρ1 s => evSs P (call P (k + 11)) (match l_law_v69_1 with | .for _ _ b => b | _ => []) ρ1 s) (fun x : D => Im.one (.d x)) (fun ρ => ∃ c, ρ = rho scr gs kk (some (.d x)) b c d) ⟨rs, []⟩ [.lst (ksD kk), .non] (rho scr gs kk (some (.d x)) b c d) ⟨_, rfl⟩ fun y hy ρ ⟨c, hc⟩ => by
      subst hc
      have h3 : kindsOk y = true := by
        simp only [List.mem_cons, List.not_mem_nil, or_false] at hy
        rcases hy with rfl | rfl
        · exact ksD_ok _
        · rfl
      have r1 := refusal_eq H.toHR _ _ (takes_bad h1 h2 h3) rs (k + 3)
      rw [refusal_bad h1] at r1
      simp only [optD] at r1
      simp -implicitDefEqProofs only [unlock_nx_mk, unlock_ret_mk, evSs, evS_set, evS_par, evS_aug, evS_exp, evS_ret, evS_retN, evS_ife, evS_raise, evS_setix, evS_setfld, evS_try, evS_cont, evS_brk, evS_pass, evE, evEs, evC, evI, evO, RE.bind_ok, RE.bind_ex, RE.blk_ok, RE.of_some, RE.of_none, binI, op_add, op_sub, RS.unlock_nx, RS.unlock_ret, RS.unlock_ex, RS.of_ok, RS.of_ex, RS.seq_nx, RS.seq_ret, RS.seq_ex, RS.seq_cnt, RS.turn_nx, RS.turn_cnt, RS.turn_ret, RS.turn_ex, getV_0, getV_s, set_0, set_s, ewipe_nil, ewipe_cons, truth_bl, truth_int, truth_lst, truth_non, isTy, len_str, len_lst, len_tup, leI, ltI, gtI, geI, eqI, neI, eqS, neS, ltS, leS, inSign, ninSign, isN_non, isnN_non, isN_int, isnN_int, isB, isnB, fin_ret, fin_nx, fin_ex, fin_cond, seq_cond, turn_cond, cond_ok, cond_bl, cond_f, cond_t, cond_ft, cond_or', cond_and', zip_lst, slc_lst, slc_str, ix_lst, ix_tup, ix_str, at_0, unlock_lock, unlock_same, unlock_mk, lock_nil, mkEnv_cons, mkEnv_nil_0, mkEnv_nil_s, Nat.reduceSub, Nat.sub_self, Nat.reduceAdd, Nat.add_zero, beq_self_eq_true, Bool.not_true, Bool.not_false, cond_true, cond_false, bind_name, bind_two_one, bind_two_many, asInt, List.map_cons, List.map_nil, Bool.or_true, Bool.true_or, Bool.or_false, Bool.false_or, Bool.and_true, Bool.true_and, Bool.and_false, Bool.false_and, walk_lst, walk_tup, walk_str, lkOf_d, List.map_map, Function.comp_def, reduceCtorEq, ix_scr, len_scr, int_int, int_bl, tyS_l, tyS_b, tyS_i, Option.map_some, lstOf_lst, mkL_cell0, alloc_0, mkLv0, mkLv1, mkLv2, mkLv3, mkLv4, mkLv5, mkLv6, mkLv7, mkLv8, mkLv9, mkLv10, tupU0, tupU1, tupU2, tupU3, tupU4, tupU5, l_law_v69_1, r1, neg_lit]
      exact ⟨_, .inl rfl, _, rfl⟩
  simp -implicitDefEqProofs only [List.map_cons, List.map_nil] at e
  rw [e]
  exact ⟨b', rfl⟩

theorem chars_lst (s : Stk) (z : S) : bty .val .list s [.d (.str z)] = .ok (.d (.lst (z.map fun c => .str [c]))) s := by
  simp only [bty, lstOf, tupOf, asStr, mkL_map]
theorem ix_last (s : Stk) (gs : List S) (h : 0 < gs.length) : ixU s (.d (strD gs)) (.d (.int (-1))) = some (.d (.str (gs.getD (gs.length - 1) []))) := by
  rw [strD, ix_lst, List.map_map, atI_map]
  have : atI gs (-1) = some (gs.getD (gs.length - 1) []) := by
    have e : ixN gs.length (-1) = some (gs.length - 1) := by
      rw [ixN, if_neg (by decide), if_pos (by omega)]; congr 1; omega
    simp only [atI, e, List.getD_eq_getElem?_getD, List.getElem?_eq_getElem (show gs.length - 1 < gs.length by omega), Option.getD_some]
  rw [this]; rfl
theorem cut_last {α : Type} (l : List α) (h : 0 < l.length) : cut l none (some (-1)) = l.take (l.length - 1) := by
  simp only [cut, sIx, List.drop_zero, Nat.sub_zero]
  rw [if_pos (by decide)]
  congr 1
  omega
theorem loop0 (H : HM P) (scr : List Int) (gs : List S) (kk : List (S × List S)) (G : Dg gs kk) (k : Nat) (rs : List (List Cell)) (a b c d : Option U) :
    ∃ a' b' c', evS P (call P (k + 11)) l_law_v69_0 (rho scr gs kk a b c d) ⟨rs, []⟩ = .nx (rho scr gs kk a' b' c' d) ⟨rs, []⟩ := by
  rw [show l_law_v69_0 = .for (.name 4) (match l_law_v69_0 with | .for _ (.of e) _ => (.of e) | _ => .of (.lit .non)) (match l_law_v69_0 with | .for _ _ b => b | _ => []) from rfl, evS_for]
  have e0 : ∀ s, ixU s (.d (strD gs)) (.d (.int (-1))) = _ := fun s => ix_last s gs G.g0
  have e1 : ∀ s, binU .val .add s (.d (strD gs)) (.d (.lst [.str (gs.getD (gs.length - 1) [])])) = .ok (.d (.lst (gs.map .str ++ [.str (gs.getD (gs.length - 1) [])]))) s := fun s => addL s _ _ (by have := G.g8; simp; omega)
  have e2 : ∀ s, slcU .val s (.d (strD gs)) none (some (-1)) = .ok (.d (strD (gs.take (gs.length - 1)))) s := fun s => by rw [slc_strs, cut_last _ G.g0]
  have e3 : ∀ s x, binU .val .add s (.d (strD (gs.take (gs.length - 1)))) (.d (.lst [x])) = .ok (.d (.lst ((gs.take (gs.length - 1)).map .str ++ [x]))) s := fun s x => addL s _ _ (by have := G.g8; simp; omega)
  have e4 : ∀ s, binU .val .add s (.d (.lst [.non, .lst [], .tup (gs.map .str), .str [97, 98], .int 5, .lst (gs.map .str ++ [.str (gs.getD (gs.length - 1) [])]), .lst nine, .lst [.str [98], .str [97]]])) (.d (.lst (badN.map fun x => .lst ((gs.take (gs.length - 1)).map .str ++ [x])))) = .ok (.d (.lst (badG gs))) s := fun s => addL s _ _ (by simp [badN])
  have e5 : ∀ s, bty .val .tuple s [.d (strD gs)] = .ok (.d (.tup (gs.map .str))) s := fun s => tuple_lst s _
  have e6 : ∀ s, bty .val .list s [.d (.str [97, 98, 99, 100, 101, 102, 103, 104, 105])] = .ok (.d (.lst nine)) s := fun s => chars_lst s _
  simp -implicitDefEqProofs only [unlock_nx_mk, unlock_ret_mk, evSs, evS_set, evS_par, evS_aug, evS_exp, evS_ret, evS_retN, evS_ife, evS_raise, evS_setix, evS_setfld, evS_try, evS_cont, evS_brk, evS_pass, evE, evEs, evC, evI, evO, RE.bind_ok, RE.bind_ex, RE.blk_ok, RE.of_some, RE.of_none, binI, op_add, op_sub, RS.unlock_nx, RS.unlock_ret, RS.unlock_ex, RS.of_ok, RS.of_ex, RS.seq_nx, RS.seq_ret, RS.seq_ex, RS.seq_cnt, RS.turn_nx, RS.turn_cnt, RS.turn_ret, RS.turn_ex, getV_0, getV_s, set_0, set_s, ewipe_nil, ewipe_cons, truth_bl, truth_int, truth_lst, truth_non, isTy, len_str, len_lst, len_tup, leI, ltI, gtI, geI, eqI, neI, eqS, neS, ltS, leS, inSign, ninSign, isN_non, isnN_non, isN_int, isnN_int, isB, isnB, fin_ret, fin_nx, fin_ex, fin_cond, seq_cond, turn_cond, cond_ok, cond_bl, cond_f, cond_t, cond_ft, cond_or', cond_and', zip_lst, slc_lst, slc_str, ix_lst, ix_tup, ix_str, at_0, unlock_lock, unlock_same, unlock_mk, lock_nil, mkEnv_cons, mkEnv_nil_0, mkEnv_nil_s, Nat.reduceSub, Nat.sub_self, Nat.reduceAdd, Nat.add_zero, beq_self_eq_true, Bool.not_true, Bool.not_false, cond_true, cond_false, bind_name, bind_two_one, bind_two_many, asInt, List.map_cons, List.map_nil, Bool.or_true, Bool.true_or, Bool.or_false, Bool.false_or, Bool.and_true, Bool.true_and, Bool.and_false, Bool.false_and, walk_lst, walk_tup, walk_str, lkOf_d, List.map_map, Function.comp_def, reduceCtorEq, ix_scr, len_scr, int_int, int_bl, tyS_l, tyS_b, tyS_i, Option.map_some, lstOf_lst, mkL_cell0, alloc_0, mkLv0, mkLv1, mkLv2, mkLv3, mkLv4, mkLv5, mkLv6, mkLv7, mkLv8, mkLv9, mkLv10, tupU0, tupU1, tupU2, tupU3, tupU4, tupU5, l_law_v69_0, neg_lit, e0, e1, e5, e6]
  rw [compL_map (h := fun x : D => Im.one (.d x)) (g := fun x => .d (.lst ((gs.take (gs.length - 1)).map .str ++ [x]))) (fun x _ => by
    simp -implicitDefEqProofs only [unlock_nx_mk, unlock_ret_mk, evSs, evS_set, evS_par, evS_aug, evS_exp, evS_ret, evS_retN, evS_ife, evS_raise, evS_setix, evS_setfld, evS_try, evS_cont, evS_brk, evS_pass, evE, evEs, evC, evI, evO, RE.bind_ok, RE.bind_ex, RE.blk_ok, RE.of_some, RE.of_none, binI, op_add, op_sub, RS.unlock_nx, RS.unlock_ret, RS.unlock_ex, RS.of_ok, RS.of_ex, RS.seq_nx, RS.seq_ret, RS.seq_ex, RS.seq_cnt, RS.turn_nx, RS.turn_cnt, RS.turn_ret, RS.turn_ex, getV_0, getV_s, set_0, set_s, ewipe_nil, ewipe_cons, truth_bl, truth_int, truth_lst, truth_non, isTy, len_str, len_lst, len_tup, leI, ltI, gtI, geI, eqI, neI, eqS, neS, ltS, leS, inSign, ninSign, isN_non, isnN_non, isN_int, isnN_int, isB, isnB, fin_ret, fin_nx, fin_ex, fin_cond, seq_cond, turn_cond, cond_ok, cond_bl, cond_f, cond_t, cond_ft, cond_or', cond_and', zip_lst, slc_lst, slc_str, ix_lst, ix_tup, ix_str, at_0, unlock_lock, unlock_same, unlock_mk, lock_nil, mkEnv_cons, mkEnv_nil_0, mkEnv_nil_s, Nat.reduceSub, Nat.sub_self, Nat.reduceAdd, Nat.add_zero, beq_self_eq_true, Bool.not_true, Bool.not_false, cond_true, cond_false, bind_name, bind_two_one, bind_two_many, asInt, List.map_cons, List.map_nil, Bool.or_true, Bool.true_or, Bool.or_false, Bool.false_or, Bool.and_true, Bool.true_and, Bool.and_false, Bool.false_and, walk_lst, walk_tup, walk_str, lkOf_d, List.map_map, Function.comp_def, reduceCtorEq, ix_scr, len_scr, int_int, int_bl, tyS_l, tyS_b, tyS_i, Option.map_some, lstOf_lst, mkL_cell0, alloc_0, mkLv0, mkLv1, mkLv2, mkLv3, mkLv4, mkLv5, mkLv6, mkLv7, mkLv8, mkLv9, mkLv10, tupU0, tupU1, tupU2, tupU3, tupU4, tupU5, neg_lit, e2, e3])]
  simp -implicitDefEqProofs only [unlock_nx_mk, unlock_ret_mk, evSs, evS_set, evS_par, evS_aug, evS_exp, evS_ret, evS_retN, evS_ife, evS_raise, evS_setix, evS_setfld, evS_try, evS_cont, evS_brk, evS_pass, evE, evEs, evC, evI, evO, RE.bind_ok, RE.bind_ex, RE.blk_ok, RE.of_some, RE.of_none, binI, op_add, op_sub, RS.unlock_nx, RS.unlock_ret, RS.unlock_ex, RS.of_ok, RS.of_ex, RS.seq_nx, RS.seq_ret, RS.seq_ex, RS.seq_cnt, RS.turn_nx, RS.turn_cnt, RS.turn_ret, RS.turn_ex, getV_0, getV_s, set_0, set_s, ewipe_nil, ewipe_cons, truth_bl, truth_int, truth_lst, truth_non, isTy, len_str, len_lst, len_tup, leI, ltI, gtI, geI, eqI, neI, eqS, neS, ltS, leS, inSign, ninSign, isN_non, isnN_non, isN_int, isnN_int, isB, isnB, fin_ret, fin_nx, fin_ex, fin_cond, seq_cond, turn_cond, cond_ok, cond_bl, cond_f, cond_t, cond_ft, cond_or', cond_and', zip_lst, slc_lst, slc_str, ix_lst, ix_tup, ix_str, at_0, unlock_lock, unlock_same, unlock_mk, lock_nil, mkEnv_cons, mkEnv_nil_0, mkEnv_nil_s, Nat.reduceSub, Nat.sub_self, Nat.reduceAdd, Nat.add_zero, beq_self_eq_true, Bool.not_true, Bool.not_false, cond_true, cond_false, bind_name, bind_two_one, bind_two_many, asInt, List.map_cons, List.map_nil, Bool.or_true, Bool.true_or, Bool.or_false, Bool.false_or, Bool.and_true, Bool.true_and, Bool.and_false, Bool.false_and, walk_lst, walk_tup, walk_str, lkOf_d, List.map_map, Function.comp_def, reduceCtorEq, ix_scr, len_scr, int_int, int_bl, tyS_l, tyS_b, tyS_i, Option.map_some, lstOf_lst, mkL_cell0, alloc_0, mkL_map, e4]
  obtain ⟨ρ', e, a', b', c', rfl⟩ := forL_same (F := fun x ρ s => RS.of (RE.of (bindT (.name 4) x ρ) s) fun ρ1 s => evSs P (call P (k + 11)) [l_law_v69_1] ρ1 s) (fun x : D => Im.one (.d x)) (fun ρ => ∃ a b c, ρ = rho scr gs kk a b c d) ⟨rs, []⟩ (badG gs) (rho scr gs kk a b c d) ⟨_, _, _, rfl⟩ fun x hx ρ ⟨a, b, c, ha⟩ => by
      subst ha
      obtain ⟨h1, h2⟩ := badG_no gs G.g0 x hx
      obtain ⟨c', e⟩ := loop1 H scr gs kk k rs x h1 h2 b c d
      simp -implicitDefEqProofs only [unlock_nx_mk, unlock_ret_mk, evSs, evS_set, evS_par, evS_aug, evS_exp, evS_ret, evS_retN, evS_ife, evS_raise, evS_setix, evS_setfld, evS_try, evS_cont, evS_brk, evS_pass, evE, evEs, evC, evI, evO, RE.bind_ok, RE.bind_ex, RE.blk_ok, RE.of_some, RE.of_none, binI, op_add, op_sub, RS.unlock_nx, RS.unlock_ret, RS.unlock_ex, RS.of_ok, RS.of_ex, RS.seq_nx, RS.seq_ret, RS.seq_ex, RS.seq_cnt, RS.turn_nx, RS.turn_cnt, RS.turn_ret, RS.turn_ex, getV_0, getV_s, set_0, set_s, ewipe_nil, ewipe_cons, truth_bl, truth_int, truth_lst, truth_non, isTy, len_str, len_lst, len_tup, leI, ltI, gtI, geI, eqI, neI, eqS, neS, ltS, leS, inSign, ninSign, isN_non, isnN_non, isN_int, isnN_int, isB, isnB, fin_ret, fin_nx, fin_ex, fin_cond, seq_cond, turn_cond, cond_ok, cond_bl, cond_f, cond_t, cond_ft, cond_or', cond_and', zip_lst, slc_lst, slc_str, ix_lst, ix_tup, ix_str, at_0, unlock_lock, unlock_same, unlock_mk, lock_nil, mkEnv_cons, mkEnv_nil_0, mkEnv_nil_s, Nat.reduceSub, Nat.sub_self, Nat.reduceAdd, Nat.add_zero, beq_self_eq_true, Bool.not_true, Bool.not_false, cond_true, cond_false, bind_name, bind_two_one, bind_two_many, asInt, List.map_cons, List.map_nil, Bool.or_true, Bool.true_or, Bool.or_false, Bool.false_or, Bool.and_true, Bool.true_and, Bool.and_false, Bool.false_and, walk_lst, walk_tup, walk_str, lkOf_d, List.map_map, Function.comp_def, reduceCtorEq, ix_scr, len_scr, int_int, int_bl, tyS_l, tyS_b, tyS_i, Option.map_some, lstOf_lst, mkL_cell0, alloc_0, e]
      exact ⟨_, .inl rfl, _, _, _, rfl⟩
  simp -implicitDefEqProofs only [unlock_nx_mk, unlock_ret_mk, evSs, evS_set, evS_par, evS_aug, evS_exp, evS_ret, evS_retN, evS_ife, evS_raise, evS_setix, evS_setfld, evS_try, evS_cont, evS_brk, evS_pass, evE, evEs, evC, evI, evO, RE.bind_ok, RE.bind_ex, RE.blk_ok, RE.of_some, RE.of_none, binI, op_add, op_sub, RS.unlock_nx, RS.unlock_ret, RS.unlock_ex, RS.of_ok, RS.of_ex, RS.seq_nx, RS.seq_ret, RS.seq_ex, RS.seq_cnt, RS.turn_nx, RS.turn_cnt, RS.turn_ret, RS.turn_ex, getV_0, getV_s, set_0, set_s, ewipe_nil, ewipe_cons, truth_bl, truth_int, truth_lst, truth_non, isTy, len_str, len_lst, len_tup, leI, ltI, gtI, geI, eqI, neI, eqS, neS, ltS, leS, inSign, ninSign, isN_non, isnN_non, isN_int, isnN_int, isB, isnB, fin_ret, fin_nx, fin_ex, fin_cond, seq_cond, turn_cond, cond_ok, cond_bl, cond_f, cond_t, cond_ft, cond_or', cond_and', zip_lst, slc_lst, slc_str, ix_lst, ix_tup, ix_str, at_0, unlock_lock, unlock_same, unlock_mk, lock_nil, mkEnv_cons, mkEnv_nil_0, mkEnv_nil_s, Nat.reduceSub, Nat.sub_self, Nat.reduceAdd, Nat.add_zero, beq_self_eq_true, Bool.not_true, Bool.not_false, cond_true, cond_false, bind_name, bind_two_one, bind_two_many, asInt, List.map_cons, List.map_nil, Bool.or_true, Bool.true_or, Bool.or_false, Bool.false_or, Bool.and_true, Bool.true_and, Bool.and_false, Bool.false_and, walk_lst, walk_tup, walk_str, lkOf_d, List.map_map, Function.comp_def, reduceCtorEq, ix_scr, len_scr, int_int, int_bl, tyS_l, tyS_b, tyS_i, Option.map_some, lstOf_lst, mkL_cell0, alloc_0] at e
  rw [e]
  exact ⟨_, _, _, rfl⟩
end
theorem min_int (s : Stk) (i j : Nat) : bfun .val .min2 s [.d (.int i), .d (.int j)] = .ok (.d (.int ((min i j : Nat) : Int))) s := by
  simp only [bfun, asInt]
  congr 3
  split <;> omega
theorem law_eq (H : HM P) (scr : List Int) (k : Nat) (rs : List (List Cell)) : call P (k + 12) 667 [.d (.scr scr)] ⟨rs, []⟩ = .ok (.d (.bl true)) ⟨rs, []⟩ := by
  rw [call_eq H.law rfl]
  have G := dig_dg scr 0 8 10 (by decide) (by decide) (by decide)
  have hz := digG_z scr 0 8
  have hk := digK_z scr 0 8 10
  have e1 : call P (k + 11) 91 [.d (.scr scr), .d (.int 0), .d (.int 8), .d (.int 10)] ⟨[] :: rs, []⟩ = _ := dig_eq H.toHJ scr 0 8 10 (by decide) (by decide) (by decide) (k + 8) ([] :: rs)
  have e2 : call P (k + 11) 176 [.d (.scr scr), .d (.int 3), .d (.int 1)] ⟨[] :: rs, []⟩ = _ := numbers_eq H.toHG scr 3 1 (by decide) (k + 10) ([] :: rs)
  obtain ⟨gs, hgs⟩ : ∃ gs, gs = digG scr 0 8 := ⟨_, rfl⟩
  obtain ⟨kk, hkk⟩ : ∃ kk, kk = digK scr 0 8 10 := ⟨_, rfl⟩
  rw [← hgs, ← hkk] at e1 G
  rw [← hgs] at hz
  rw [← hkk] at hk
  have hl := nums_len scr 3 1
  have n1 : ∀ s, ixU s (.d (nsD (nums scr 3 1))) (.d (.int 0)) = some (.d (.int (nsAt (nums scr 3 1) 0))) := fun s => ix_ns _ _ _ 0 rfl (by omega)
  have hn := atK_le scr kk
  have e3 : ∀ s, bfun .val .len s [.d (.lst (ksD kk))] = .ok (.d (.int (kk.length : Nat))) s := fun s => by rw [len_lst, ksD, List.length_map]
  have e4 : ∀ s, bfun .val .min2 s [.d (.int (kk.length : Nat)), .d (.int 9)] = .ok (.d (.int ((min kk.length 9 : Nat) : Int))) s := fun s => min_int s _ 9
  have e5 : intOp .mod (nsAt (nums scr 3 1) 0) (((min kk.length 9 : Nat) : Int) + 1) = some ((atK scr kk : Nat) : Int) := by
    rw [op_mod _ _ (by omega)]
    have h1 : 0 ≤ nsAt (nums scr 3 1) 0 % (((min kk.length 9 : Nat) : Int) + 1) := Int.emod_nonneg _ (by omega)
    rw [atK, Int.toNat_of_nonneg h1]
  have e6 : ∀ s, ixU s (.d (strD gs)) (.d (.int 0)) = some (.d (.str (gs.getD 0 []))) := fun s => ix_strs _ _ _ (by decide) (by have := G.g0; omega)
  have e7 : ∀ (s : Stk) (c : Nat), binU .val .add s (.d (.str [107])) (.d (.str [c])) = .ok (.d (.str [107, c])) s := fun s c => binS s _ _ (by simp)
  have r1 := refusal_eq H.toHR _ _ G.takes ([] :: rs) (k + 3)
  rw [G.refusal] at r1
  have M := many_dg G (gs.getD 0 []) (getD_mem _ _ G.g0)
  have r2 := refusal_eq H.toHR _ _ M.takes ([] :: rs) (k + 3)
  rw [M.refusal] at r2
  have r3 := refusal_eq H.toHR _ _ abc_dg.takes ([] :: rs) (k + 3)
  rw [abc_dg.refusal] at r3
  have ZG := zz_dg G hk (atK scr kk) hn.2
  have r4 := refusal_eq H.toHR _ _ ZG.takes ([] :: rs) (k + 3)
  rw [ZG.refusal] at r4
  simp only [optD] at r1 r2 r3 r4
  have c1 : ∀ s, bty .val .list s [.d (.str [97, 98, 99, 100, 101, 102, 103, 104])] = .ok (.d (strD [[97], [98], [99], [100], [101], [102], [103], [104]])) s := fun s => chars_lst s _
  have c2 : ksD [] = [] := rfl
  rw [c2] at r3
  have c3 : cut (ksD (manyK (gs.getD 0 []))) none (some 10) = ksD ((manyK (gs.getD 0 [])).take 10) := slc_take _ 10
  have c4 : ∀ s, binU .val .add s (.d (.lst (ksD (kk.take (atK scr kk))))) (.d (.lst [.tup [.str [122, 122, 122], strD gs]])) = .ok (.d (.lst (ksD (kk.take (atK scr kk) ++ [(ZZZ, gs)])))) s := fun s => by
    rw [addL s _ _ (by have := G.k10; simp [ksD]; omega), ksD, ksD, List.map_append]; rfl
  have c5 : ∀ s, bty .val .list s [.d (strD gs)] = .ok (.d (strD gs)) s := fun s => list_lst s _
  simp -implicitDefEqProofs only [f_law_v69, unlock_nx_mk, unlock_ret_mk, evSs, evS_set, evS_par, evS_aug, evS_exp, evS_ret, evS_retN, evS_ife, evS_raise, evS_setix, evS_setfld, evS_try, evS_cont, evS_brk, evS_pass, evE, evEs, evC, evI, evO, RE.bind_ok, RE.bind_ex, RE.blk_ok, RE.of_some, RE.of_none, binI, op_add, op_sub, RS.unlock_nx, RS.unlock_ret, RS.unlock_ex, RS.of_ok, RS.of_ex, RS.seq_nx, RS.seq_ret, RS.seq_ex, RS.seq_cnt, RS.turn_nx, RS.turn_cnt, RS.turn_ret, RS.turn_ex, getV_0, getV_s, set_0, set_s, ewipe_nil, ewipe_cons, truth_bl, truth_int, truth_lst, truth_non, isTy, len_str, len_lst, len_tup, leI, ltI, gtI, geI, eqI, neI, eqS, neS, ltS, leS, inSign, ninSign, isN_non, isnN_non, isN_int, isnN_int, isB, isnB, fin_ret, fin_nx, fin_ex, fin_cond, seq_cond, turn_cond, cond_ok, cond_bl, cond_f, cond_t, cond_ft, cond_or', cond_and', zip_lst, slc_lst, slc_str, ix_lst, ix_tup, ix_str, at_0, unlock_lock, unlock_same, unlock_mk, lock_nil, mkEnv_cons, mkEnv_nil_0, mkEnv_nil_s, Nat.reduceSub, Nat.sub_self, Nat.reduceAdd, Nat.add_zero, beq_self_eq_true, Bool.not_true, Bool.not_false, cond_true, cond_false, bind_name, bind_two_one, bind_two_many, asInt, List.map_cons, List.map_nil, Bool.or_true, Bool.true_or, Bool.or_false, Bool.false_or, Bool.and_true, Bool.true_and, Bool.and_false, Bool.false_and, walk_lst, walk_tup, walk_str, lkOf_d, List.map_map, Function.comp_def, reduceCtorEq, ix_scr, len_scr, int_int, int_bl, tyS_l, tyS_b, tyS_i, Option.map_some, lstOf_lst, mkL_cell0, alloc_0, mkLv0, mkLv1, mkLv2, mkLv3, mkLv4, mkLv5, mkLv6, mkLv7, mkLv8, mkLv9, mkLv10, tupU0, tupU1, tupU2, tupU3, tupU4, tupU5, e1, e2, n1, e3, e4, e5]
  rw [show [Im.one (U.d (D.str [97])), Im.one (U.d (D.str [98])), Im.one (U.d (D.str [99])), Im.one (U.d (D.str [100])), Im.one (U.d (D.str [101])), Im.one (U.d (D.str [102])), Im.one (U.d (D.str [103])), Im.one (U.d (D.str [104])), Im.one (U.d (D.str [105])), Im.one (U.d (D.str [106])), Im.one (U.d (D.str [107]))] = abck.map (fun c => Im.one (.d (.str [c]))) from rfl, compL_map (l := abck) (h := fun c => Im.one (.d (.str [c]))) (g := fun c => .d (.tup [.str [107, c], .lst [.str (gs.getD 0 [])]])) (fun c _ => by
    simp -implicitDefEqProofs only [unlock_nx_mk, unlock_ret_mk, evSs, evS_set, evS_par, evS_aug, evS_exp, evS_ret, evS_retN, evS_ife, evS_raise, evS_setix, evS_setfld, evS_try, evS_cont, evS_brk, evS_pass, evE, evEs, evC, evI, evO, RE.bind_ok, RE.bind_ex, RE.blk_ok, RE.of_some, RE.of_none, binI, op_add, op_sub, RS.unlock_nx, RS.unlock_ret, RS.unlock_ex, RS.of_ok, RS.of_ex, RS.seq_nx, RS.seq_ret, RS.seq_ex, RS.seq_cnt, RS.turn_nx, RS.turn_cnt, RS.turn_ret, RS.turn_ex, getV_0, getV_s, set_0, set_s, ewipe_nil, ewipe_cons, truth_bl, truth_int, truth_lst, truth_non, isTy, len_str, len_lst, len_tup, leI, ltI, gtI, geI, eqI, neI, eqS, neS, ltS, leS, inSign, ninSign, isN_non, isnN_non, isN_int, isnN_int, isB, isnB, fin_ret, fin_nx, fin_ex, fin_cond, seq_cond, turn_cond, cond_ok, cond_bl, cond_f, cond_t, cond_ft, cond_or', cond_and', zip_lst, slc_lst, slc_str, ix_lst, ix_tup, ix_str, at_0, unlock_lock, unlock_same, unlock_mk, lock_nil, mkEnv_cons, mkEnv_nil_0, mkEnv_nil_s, Nat.reduceSub, Nat.sub_self, Nat.reduceAdd, Nat.add_zero, beq_self_eq_true, Bool.not_true, Bool.not_false, cond_true, cond_false, bind_name, bind_two_one, bind_two_many, asInt, List.map_cons, List.map_nil, Bool.or_true, Bool.true_or, Bool.or_false, Bool.false_or, Bool.and_true, Bool.true_and, Bool.and_false, Bool.false_and, walk_lst, walk_tup, walk_str, lkOf_d, List.map_map, Function.comp_def, reduceCtorEq, ix_scr, len_scr, int_int, int_bl, tyS_l, tyS_b, tyS_i, Option.map_some, lstOf_lst, mkL_cell0, alloc_0, mkLv0, mkLv1, mkLv2, mkLv3, mkLv4, mkLv5, mkLv6, mkLv7, mkLv8, mkLv9, mkLv10, tupU0, tupU1, tupU2, tupU3, tupU4, tupU5, e6, e7])]
  have c6 : abck.map (fun c => D.tup [.str [107, c], .lst [.str (gs.getD 0 [])]]) = ksD (manyK (gs.getD 0 [])) := rfl
  simp -implicitDefEqProofs only [unlock_nx_mk, unlock_ret_mk, evSs, evS_set, evS_par, evS_aug, evS_exp, evS_ret, evS_retN, evS_ife, evS_raise, evS_setix, evS_setfld, evS_try, evS_cont, evS_brk, evS_pass, evE, evEs, evC, evI, evO, RE.bind_ok, RE.bind_ex, RE.blk_ok, RE.of_some, RE.of_none, binI, op_add, op_sub, RS.unlock_nx, RS.unlock_ret, RS.unlock_ex, RS.of_ok, RS.of_ex, RS.seq_nx, RS.seq_ret, RS.seq_ex, RS.seq_cnt, RS.turn_nx, RS.turn_cnt, RS.turn_ret, RS.turn_ex, getV_0, getV_s, set_0, set_s, ewipe_nil, ewipe_cons, truth_bl, truth_int, truth_lst, truth_non, isTy, len_str, len_lst, len_tup, leI, ltI, gtI, geI, eqI, neI, eqS, neS, ltS, leS, inSign, ninSign, isN_non, isnN_non, isN_int, isnN_int, isB, isnB, fin_ret, fin_nx, fin_ex, fin_cond, seq_cond, turn_cond, cond_ok, cond_bl, cond_f, cond_t, cond_ft, cond_or', cond_and', zip_lst, slc_lst, slc_str, ix_lst, ix_tup, ix_str, at_0, unlock_lock, unlock_same, unlock_mk, lock_nil, mkEnv_cons, mkEnv_nil_0, mkEnv_nil_s, Nat.reduceSub, Nat.sub_self, Nat.reduceAdd, Nat.add_zero, beq_self_eq_true, Bool.not_true, Bool.not_false, cond_true, cond_false, bind_name, bind_two_one, bind_two_many, asInt, List.map_cons, List.map_nil, Bool.or_true, Bool.true_or, Bool.or_false, Bool.false_or, Bool.and_true, Bool.true_and, Bool.and_false, Bool.false_and, walk_lst, walk_tup, walk_str, lkOf_d, List.map_map, Function.comp_def, reduceCtorEq, ix_scr, len_scr, int_int, int_bl, tyS_l, tyS_b, tyS_i, Option.map_some, lstOf_lst, mkL_cell0, alloc_0, mkLv0, mkLv1, mkLv2, mkLv3, mkLv4, mkLv5, mkLv6, mkLv7, mkLv8, mkLv9, mkLv10, tupU0, tupU1, tupU2, tupU3, tupU4, tupU5, mkL_map, c6, r1, c1, c3, r2, r3]
  obtain ⟨a0, b0, c0, L0⟩ := loop0 H scr gs kk G k ([] :: rs) none none none none
  obtain ⟨a1, L1⟩ := loop2 H scr gs kk G k ([] :: rs) a0 b0 c0 none
  obtain ⟨a2, L2⟩ := loop3 H scr gs kk G hz k ([] :: rs) a1 b0 c0 none
  obtain ⟨a3, L3⟩ := loop4 H scr gs kk k ([] :: rs) a2 b0 c0 none
  obtain ⟨a4, L4⟩ := loop5 H scr gs kk G k ([] :: rs) a2 a3 c0 none
  have w1 := is_whole_eq H.toHN (.int (-5)) rfl ⟨[] :: rs, []⟩ (k + 10)
  have w2 := is_whole_eq H.toHN (.bl true) rfl ⟨[] :: rs, []⟩ (k + 10)
  have w3 := is_whole_eq H.toHN .non rfl ⟨[] :: rs, []⟩ (k + 10)
  have w4 := is_whole_eq H.toHN (.str [53]) rfl ⟨[] :: rs, []⟩ (k + 10)
  have c8 : cut (ksD kk) none (some ((atK scr kk : Nat) : Int)) = ksD (kk.take (atK scr kk)) := slc_take _ _
  simp -implicitDefEqProofs only [rho, unlock_nx_mk, unlock_ret_mk, evSs, evS_set, evS_par, evS_aug, evS_exp, evS_ret, evS_retN, evS_ife, evS_raise, evS_setix, evS_setfld, evS_try, evS_cont, evS_brk, evS_pass, evE, evEs, evC, evI, evO, RE.bind_ok, RE.bind_ex, RE.blk_ok, RE.of_some, RE.of_none, binI, op_add, op_sub, RS.unlock_nx, RS.unlock_ret, RS.unlock_ex, RS.of_ok, RS.of_ex, RS.seq_nx, RS.seq_ret, RS.seq_ex, RS.seq_cnt, RS.turn_nx, RS.turn_cnt, RS.turn_ret, RS.turn_ex, getV_0, getV_s, set_0, set_s, ewipe_nil, ewipe_cons, truth_bl, truth_int, truth_lst, truth_non, isTy, len_str, len_lst, len_tup, leI, ltI, gtI, geI, eqI, neI, eqS, neS, ltS, leS, inSign, ninSign, isN_non, isnN_non, isN_int, isnN_int, isB, isnB, fin_ret, fin_nx, fin_ex, fin_cond, seq_cond, turn_cond, cond_ok, cond_bl, cond_f, cond_t, cond_ft, cond_or', cond_and', zip_lst, slc_lst, slc_str, ix_lst, ix_tup, ix_str, at_0, unlock_lock, unlock_same, unlock_mk, lock_nil, mkEnv_cons, mkEnv_nil_0, mkEnv_nil_s, Nat.reduceSub, Nat.sub_self, Nat.reduceAdd, Nat.add_zero, beq_self_eq_true, Bool.not_true, Bool.not_false, cond_true, cond_false, bind_name, bind_two_one, bind_two_many, asInt, List.map_cons, List.map_nil, Bool.or_true, Bool.true_or, Bool.or_false, Bool.false_or, Bool.and_true, Bool.true_and, Bool.and_false, Bool.false_and, walk_lst, walk_tup, walk_str, lkOf_d, List.map_map, Function.comp_def, reduceCtorEq, ix_scr, len_scr, int_int, int_bl, tyS_l, tyS_b, tyS_i, Option.map_some, lstOf_lst, mkL_cell0, alloc_0, mkLv0, mkLv1, mkLv2, mkLv3, mkLv4, mkLv5, mkLv6, mkLv7, mkLv8, mkLv9, mkLv10, tupU0, tupU1, tupU2, tupU3, tupU4, tupU5, badN] at L0 L1 L2 L3 L4 ⊢
  rw [L0]
  simp -implicitDefEqProofs only [unlock_nx_mk, unlock_ret_mk, evSs, evS_set, evS_par, evS_aug, evS_exp, evS_ret, evS_retN, evS_ife, evS_raise, evS_setix, evS_setfld, evS_try, evS_cont, evS_brk, evS_pass, evE, evEs, evC, evI, evO, RE.bind_ok, RE.bind_ex, RE.blk_ok, RE.of_some, RE.of_none, binI, op_add, op_sub, RS.unlock_nx, RS.unlock_ret, RS.unlock_ex, RS.of_ok, RS.of_ex, RS.seq_nx, RS.seq_ret, RS.seq_ex, RS.seq_cnt, RS.turn_nx, RS.turn_cnt, RS.turn_ret, RS.turn_ex, getV_0, getV_s, set_0, set_s, ewipe_nil, ewipe_cons, truth_bl, truth_int, truth_lst, truth_non, isTy, len_str, len_lst, len_tup, leI, ltI, gtI, geI, eqI, neI, eqS, neS, ltS, leS, inSign, ninSign, isN_non, isnN_non, isN_int, isnN_int, isB, isnB, fin_ret, fin_nx, fin_ex, fin_cond, seq_cond, turn_cond, cond_ok, cond_bl, cond_f, cond_t, cond_ft, cond_or', cond_and', zip_lst, slc_lst, slc_str, ix_lst, ix_tup, ix_str, at_0, unlock_lock, unlock_same, unlock_mk, lock_nil, mkEnv_cons, mkEnv_nil_0, mkEnv_nil_s, Nat.reduceSub, Nat.sub_self, Nat.reduceAdd, Nat.add_zero, beq_self_eq_true, Bool.not_true, Bool.not_false, cond_true, cond_false, bind_name, bind_two_one, bind_two_many, asInt, List.map_cons, List.map_nil, Bool.or_true, Bool.true_or, Bool.or_false, Bool.false_or, Bool.and_true, Bool.true_and, Bool.and_false, Bool.false_and, walk_lst, walk_tup, walk_str, lkOf_d, List.map_map, Function.comp_def, reduceCtorEq, ix_scr, len_scr, int_int, int_bl, tyS_l, tyS_b, tyS_i, Option.map_some, lstOf_lst, mkL_cell0, alloc_0, mkLv0, mkLv1, mkLv2, mkLv3, mkLv4, mkLv5, mkLv6, mkLv7, mkLv8, mkLv9, mkLv10, tupU0, tupU1, tupU2, tupU3, tupU4, tupU5]
  rw [L1]
  simp -implicitDefEqProofs only [unlock_nx_mk, unlock_ret_mk, evSs, evS_set, evS_par, evS_aug, evS_exp, evS_ret, evS_retN, evS_ife, evS_raise, evS_setix, evS_setfld, evS_try, evS_cont, evS_brk, evS_pass, evE, evEs, evC, evI, evO, RE.bind_ok, RE.bind_ex, RE.blk_ok, RE.of_some, RE.of_none, binI, op_add, op_sub, RS.unlock_nx, RS.unlock_ret, RS.unlock_ex, RS.of_ok, RS.of_ex, RS.seq_nx, RS.seq_ret, RS.seq_ex, RS.seq_cnt, RS.turn_nx, RS.turn_cnt, RS.turn_ret, RS.turn_ex, getV_0, getV_s, set_0, set_s, ewipe_nil, ewipe_cons, truth_bl, truth_int, truth_lst, truth_non, isTy, len_str, len_lst, len_tup, leI, ltI, gtI, geI, eqI, neI, eqS, neS, ltS, leS, inSign, ninSign, isN_non, isnN_non, isN_int, isnN_int, isB, isnB, fin_ret, fin_nx, fin_ex, fin_cond, seq_cond, turn_cond, cond_ok, cond_bl, cond_f, cond_t, cond_ft, cond_or', cond_and', zip_lst, slc_lst, slc_str, ix_lst, ix_tup, ix_str, at_0, unlock_lock, unlock_same, unlock_mk, lock_nil, mkEnv_cons, mkEnv_nil_0, mkEnv_nil_s, Nat.reduceSub, Nat.sub_self, Nat.reduceAdd, Nat.add_zero, beq_self_eq_true, Bool.not_true, Bool.not_false, cond_true, cond_false, bind_name, bind_two_one, bind_two_many, asInt, List.map_cons, List.map_nil, Bool.or_true, Bool.true_or, Bool.or_false, Bool.false_or, Bool.and_true, Bool.true_and, Bool.and_false, Bool.false_and, walk_lst, walk_tup, walk_str, lkOf_d, List.map_map, Function.comp_def, reduceCtorEq, ix_scr, len_scr, int_int, int_bl, tyS_l, tyS_b, tyS_i, Option.map_some, lstOf_lst, mkL_cell0, alloc_0, mkLv0, mkLv1, mkLv2, mkLv3, mkLv4, mkLv5, mkLv6, mkLv7, mkLv8, mkLv9, mkLv10, tupU0, tupU1, tupU2, tupU3, tupU4, tupU5]
  rw [L2]
  simp -implicitDefEqProofs only [unlock_nx_mk, unlock_ret_mk, evSs, evS_set, evS_par, evS_aug, evS_exp, evS_ret, evS_retN, evS_ife, evS_raise, evS_setix, evS_setfld, evS_try, evS_cont, evS_brk, evS_pass, evE, evEs, evC, evI, evO, RE.bind_ok, RE.bind_ex, RE.blk_ok, RE.of_some, RE.of_none, binI, op_add, op_sub, RS.unlock_nx, RS.unlock_ret, RS.unlock_ex, RS.of_ok, RS.of_ex, RS.seq_nx, RS.seq_ret, RS.seq_ex, RS.seq_cnt, RS.turn_nx, RS.turn_cnt, RS.turn_ret, RS.turn_ex, getV_0, getV_s, set_0, set_s, ewipe_nil, ewipe_cons, truth_bl, truth_int, truth_lst, truth_non, isTy, len_str, len_lst, len_tup, leI, ltI, gtI, geI, eqI, neI, eqS, neS, ltS, leS, inSign, ninSign, isN_non, isnN_non, isN_int, isnN_int, isB, isnB, fin_ret, fin_nx, fin_ex, fin_cond, seq_cond, turn_cond, cond_ok, cond_bl, cond_f, cond_t, cond_ft, cond_or', cond_and', zip_lst, slc_lst, slc_str, ix_lst, ix_tup, ix_str, at_0, unlock_lock, unlock_same, unlock_mk, lock_nil, mkEnv_cons, mkEnv_nil_0, mkEnv_nil_s, Nat.reduceSub, Nat.sub_self, Nat.reduceAdd, Nat.add_zero, beq_self_eq_true, Bool.not_true, Bool.not_false, cond_true, cond_false, bind_name, bind_two_one, bind_two_many, asInt, List.map_cons, List.map_nil, Bool.or_true, Bool.true_or, Bool.or_false, Bool.false_or, Bool.and_true, Bool.true_and, Bool.and_false, Bool.false_and, walk_lst, walk_tup, walk_str, lkOf_d, List.map_map, Function.comp_def, reduceCtorEq, ix_scr, len_scr, int_int, int_bl, tyS_l, tyS_b, tyS_i, Option.map_some, lstOf_lst, mkL_cell0, alloc_0, mkLv0, mkLv1, mkLv2, mkLv3, mkLv4, mkLv5, mkLv6, mkLv7, mkLv8, mkLv9, mkLv10, tupU0, tupU1, tupU2, tupU3, tupU4, tupU5, c8, c5, c4, r4]
  rw [L3]
  simp -implicitDefEqProofs only [unlock_nx_mk, unlock_ret_mk, evSs, evS_set, evS_par, evS_aug, evS_exp, evS_ret, evS_retN, evS_ife, evS_raise, evS_setix, evS_setfld, evS_try, evS_cont, evS_brk, evS_pass, evE, evEs, evC, evI, evO, RE.bind_ok, RE.bind_ex, RE.blk_ok, RE.of_some, RE.of_none, binI, op_add, op_sub, RS.unlock_nx, RS.unlock_ret, RS.unlock_ex, RS.of_ok, RS.of_ex, RS.seq_nx, RS.seq_ret, RS.seq_ex, RS.seq_cnt, RS.turn_nx, RS.turn_cnt, RS.turn_ret, RS.turn_ex, getV_0, getV_s, set_0, set_s, ewipe_nil, ewipe_cons, truth_bl, truth_int, truth_lst, truth_non, isTy, len_str, len_lst, len_tup, leI, ltI, gtI, geI, eqI, neI, eqS, neS, ltS, leS, inSign, ninSign, isN_non, isnN_non, isN_int, isnN_int, isB, isnB, fin_ret, fin_nx, fin_ex, fin_cond, seq_cond, turn_cond, cond_ok, cond_bl, cond_f, cond_t, cond_ft, cond_or', cond_and', zip_lst, slc_lst, slc_str, ix_lst, ix_tup, ix_str, at_0, unlock_lock, unlock_same, unlock_mk, lock_nil, mkEnv_cons, mkEnv_nil_0, mkEnv_nil_s, Nat.reduceSub, Nat.sub_self, Nat.reduceAdd, Nat.add_zero, beq_self_eq_true, Bool.not_true, Bool.not_false, cond_true, cond_false, bind_name, bind_two_one, bind_two_many, asInt, List.map_cons, List.map_nil, Bool.or_true, Bool.true_or, Bool.or_false, Bool.false_or, Bool.and_true, Bool.true_and, Bool.and_false, Bool.false_and, walk_lst, walk_tup, walk_str, lkOf_d, List.map_map, Function.comp_def, reduceCtorEq, ix_scr, len_scr, int_int, int_bl, tyS_l, tyS_b, tyS_i, Option.map_some, lstOf_lst, mkL_cell0, alloc_0, mkLv0, mkLv1, mkLv2, mkLv3, mkLv4, mkLv5, mkLv6, mkLv7, mkLv8, mkLv9, mkLv10, tupU0, tupU1, tupU2, tupU3, tupU4, tupU5]
  rw [L4]
  simp -implicitDefEqProofs only [unlock_nx_mk, unlock_ret_mk, evSs, evS_set, evS_par, evS_aug, evS_exp, evS_ret, evS_retN, evS_ife, evS_raise, evS_setix, evS_setfld, evS_try, evS_cont, evS_brk, evS_pass, evE, evEs, evC, evI, evO, RE.bind_ok, RE.bind_ex, RE.blk_ok, RE.of_some, RE.of_none, binI, op_add, op_sub, RS.unlock_nx, RS.unlock_ret, RS.unlock_ex, RS.of_ok, RS.of_ex, RS.seq_nx, RS.seq_ret, RS.seq_ex, RS.seq_cnt, RS.turn_nx, RS.turn_cnt, RS.turn_ret, RS.turn_ex, getV_0, getV_s, set_0, set_s, ewipe_nil, ewipe_cons, truth_bl, truth_int, truth_lst, truth_non, isTy, len_str, len_lst, len_tup, leI, ltI, gtI, geI, eqI, neI, eqS, neS, ltS, leS, inSign, ninSign, isN_non, isnN_non, isN_int, isnN_int, isB, isnB, fin_ret, fin_nx, fin_ex, fin_cond, seq_cond, turn_cond, cond_ok, cond_bl, cond_f, cond_t, cond_ft, cond_or', cond_and', zip_lst, slc_lst, slc_str, ix_lst, ix_tup, ix_str, at_0, unlock_lock, unlock_same, unlock_mk, lock_nil, mkEnv_cons, mkEnv_nil_0, mkEnv_nil_s, Nat.reduceSub, Nat.sub_self, Nat.reduceAdd, Nat.add_zero, beq_self_eq_true, Bool.not_true, Bool.not_false, cond_true, cond_false, bind_name, bind_two_one, bind_two_many, asInt, List.map_cons, List.map_nil, Bool.or_true, Bool.true_or, Bool.or_false, Bool.false_or, Bool.and_true, Bool.true_and, Bool.and_false, Bool.false_and, walk_lst, walk_tup, walk_str, lkOf_d, List.map_map, Function.comp_def, reduceCtorEq, ix_scr, len_scr, int_int, int_bl, tyS_l, tyS_b, tyS_i, Option.map_some, lstOf_lst, mkL_cell0, alloc_0, mkLv0, mkLv1, mkLv2, mkLv3, mkLv4, mkLv5, mkLv6, mkLv7, mkLv8, mkLv9, mkLv10, tupU0, tupU1, tupU2, tupU3, tupU4, tupU5, neg_lit, w1, w2, w3, w4, isInt]
theorem law_true_of (H : HM P) (ns : List Int) : ∃ s, call P 12 667 [.d (.scr ns)] ⟨[[]], []⟩ = .ok (.d (.bl true)) s := ⟨_, law_eq H ns 0 [[]]⟩
end Z
end

section
set_option autoImplicit false
set_option maxRecDepth 1000000
namespace Z.Law
open Z PySem
def nthS : List Stmt → Nat → Stmt
  | [], _ => .Pass ⟨0, 0, 0, 0⟩
  | s :: _, 0 => s
  | _ :: r, n + 1 => nthS r n
def clsB : Stmt → List Stmt
  | .ClassDef _ _ _ b _ _ _ _ _ _ _ => b
  | _ => []
def prg : List Stmt := PySem.Challenge.pw_onestretch_k01_digs_checked.main.body
def chk (b : List St) (N : List Str) (st : Stmt) : Bool := mSs tb ⟨L2.defScope st, N, fun _ => true⟩ b (L2.defBody st)
def s__wall : Stmt := nthS prg 0
theorem m__wall : chk f__wall.body n__wall s__wall = true := by decide +kernel
def s__law_is_integer : Stmt := nthS prg 5
theorem m__law_is_integer : chk f__law_is_integer.body n__law_is_integer s__law_is_integer = true := by decide +kernel
def s_is_name : Stmt := nthS prg 6
theorem m_is_name : chk f_is_name.body n_is_name s_is_name = true := by decide +kernel
def s_is_pair : Stmt := nthS prg 7
theorem m_is_pair : chk f_is_pair.body n_is_pair s_is_pair = true := by decide +kernel
def s_is_ascending : Stmt := nthS prg 8
theorem m_is_ascending : chk f_is_ascending.body n_is_ascending s_is_ascending = true := by decide +kernel
def s_are_names : Stmt := nthS prg 9
theorem m_are_names : chk f_are_names.body n_are_names s_are_names = true := by decide +kernel
def s_X_BadDig____init__ : Stmt := nthS (clsB (nthS prg 12)) 0
theorem m_X_BadDig____init__ : mInit [Str.ofString "self", Str.ofString "index"] (Str.ofString "index") s_X_BadDig____init__ = true := by decide +kernel
def s_X_BadOrder____init__ : Stmt := nthS (clsB (nthS prg 13)) 0
theorem m_X_BadOrder____init__ : mInit [Str.ofString "self", Str.ofString "index"] (Str.ofString "index") s_X_BadOrder____init__ = true := by decide +kernel
def s_X_Unknown____init__ : Stmt := nthS (clsB (nthS prg 14)) 0
theorem m_X_Unknown____init__ : mInit [Str.ofString "self", Str.ofString "name"] (Str.ofString "name") s_X_Unknown____init__ = true := by decide +kernel
def s_are_graves : Stmt := nthS prg 20
theorem m_are_graves : chk f_are_graves.body n_are_graves s_are_graves = true := by decide +kernel
def s_are_some_of : Stmt := nthS prg 21
theorem m_are_some_of : chk f_are_some_of.body n_are_some_of s_are_some_of = true := by decide +kernel
def s_is_right_kind : Stmt := nthS prg 22
theorem m_is_right_kind : chk f_is_right_kind.body n_is_right_kind s_is_right_kind = true := by decide +kernel
def s_first_wrong : Stmt := nthS prg 23
theorem m_first_wrong : chk f_first_wrong.body n_first_wrong s_first_wrong = true := by decide +kernel
def s_check_dig : Stmt := nthS prg 24
theorem m_check_dig : chk f_check_dig.body n_check_dig s_check_dig = true := by decide +kernel
def s_Dig____init__ : Stmt := nthS (clsB (nthS prg 26)) 0
theorem m_Dig____init__ : chk f_Dig____init__.body n_Dig____init__ s_Dig____init__ = true := by decide +kernel
def s_Dig__kinds_with : Stmt := nthS (clsB (nthS prg 26)) 1
theorem m_Dig__kinds_with : chk f_Dig__kinds_with.body n_Dig__kinds_with s_Dig__kinds_with = true := by decide +kernel
def s_Dig__graves : Stmt := nthS (clsB (nthS prg 26)) 2
theorem m_Dig__graves : chk f_Dig__graves.body n_Dig__graves s_Dig__graves = true := by decide +kernel
def s_Dig__kinds : Stmt := nthS (clsB (nthS prg 26)) 3
theorem m_Dig__kinds : chk f_Dig__kinds.body n_Dig__kinds s_Dig__kinds = true := by decide +kernel
def s_Dig__names : Stmt := nthS (clsB (nthS prg 26)) 4
theorem m_Dig__names : chk f_Dig__names.body n_Dig__names s_Dig__names = true := by decide +kernel
def s_Dig__is_grave_v1 : Stmt := nthS (clsB (nthS prg 26)) 5
theorem m_Dig__is_grave_v1 : chk f_Dig__is_grave_v1.body n_Dig__is_grave_v1 s_Dig__is_grave_v1 = true := by decide +kernel
def s_Dig__is_kind : Stmt := nthS (clsB (nthS prg 26)) 6
theorem m_Dig__is_kind : chk f_Dig__is_kind.body n_Dig__is_kind s_Dig__is_kind = true := by decide +kernel
def s_Dig__members : Stmt := nthS (clsB (nthS prg 26)) 7
theorem m_Dig__members : chk f_Dig__members.body n_Dig__members s_Dig__members = true := by decide +kernel
def s_Dig__has_v2 : Stmt := nthS (clsB (nthS prg 26)) 8
theorem m_Dig__has_v2 : chk f_Dig__has_v2.body n_Dig__has_v2 s_Dig__has_v2 = true := by decide +kernel
def s_Dig__both_v3 : Stmt := nthS (clsB (nthS prg 26)) 9
theorem m_Dig__both_v3 : chk f_Dig__both_v3.body n_Dig__both_v3 s_Dig__both_v3 = true := by decide +kernel
def s__law_numbers : Stmt := nthS prg 28
theorem m__law_numbers : chk f__law_numbers.body n__law_numbers s__law_numbers = true := by decide +kernel
def s__law_names : Stmt := nthS prg 29
theorem m__law_names : chk f__law_names.body n__law_names s__law_names = true := by decide +kernel
def s__law_hidden_v1 : Stmt := nthS prg 30
theorem m__law_hidden_v1 : chk f__law_hidden_v1.body n__law_hidden_v1 s__law_hidden_v1 = true := by decide +kernel
def s__law_dig : Stmt := nthS prg 31
theorem m__law_dig : chk f__law_dig.body n__law_dig s__law_dig = true := by decide +kernel
def s__law_refusal_v6 : Stmt := nthS prg 32
theorem m__law_refusal_v6 : chk f__law_refusal_v6.body n__law_refusal_v6 s__law_refusal_v6 = true := by decide +kernel
def s__law_wrong_kinds : Stmt := nthS prg 33
theorem m__law_wrong_kinds : chk f__law_wrong_kinds.body n__law_wrong_kinds s__law_wrong_kinds = true := by decide +kernel
def s_law_v69 : Stmt := nthS prg 34
theorem m_law_v69 : chk f_law_v69.body n_law_v69 s_law_v69 = true := by decide +kernel
end Z.Law
end

section
set_option autoImplicit false
set_option linter.all false
set_option maxRecDepth 1000000
namespace Z.Law
open Z
open PySem (Str sizeLine Value Addr PyData Expr Scope Heap FuncData BindsTo World mainGlobals excClassObj)
open L2 (V HO Hp Key Cx)
def cfg (K : PySem.W.Frag) (ca : Nat → Addr) : Cfg := ⟨K, ca, fun k => match k with
  | 1 => [(Str.ofString "index")]
  | 4 => [(Str.ofString "index")]
  | 10 => [(Str.ofString "name")]
  | 5 => [(Str.ofString "_graves"), (Str.ofString "_members"), (Str.ofString "_had")]
  | _ => [], tb.rse⟩
theorem mi_21 : ∀ k f, pg.meth k 21 = some f → (k = 5 ∧ f = 40) := by
  intro k f h
  unfold pg at h
  dsimp only at h
  split at h <;> first | (injection h with h; subst h; simp; done) | (simp_all; done) | cases h
theorem mi_11 : ∀ k f, pg.meth k 11 = some f → (k = 5 ∧ f = 32) := by
  intro k f h
  unfold pg at h
  dsimp only at h
  split at h <;> first | (injection h with h; subst h; simp; done) | (simp_all; done) | cases h
theorem mi_20 : ∀ k f, pg.meth k 20 = some f → (k = 5 ∧ f = 39) := by
  intro k f h
  unfold pg at h
  dsimp only at h
  split at h <;> first | (injection h with h; subst h; simp; done) | (simp_all; done) | cases h
theorem mi_23 : ∀ k f, pg.meth k 23 = some f → (k = 5 ∧ f = 42) := by
  intro k f h
  unfold pg at h
  dsimp only at h
  split at h <;> first | (injection h with h; subst h; simp; done) | (simp_all; done) | cases h
theorem mi_14 : ∀ k f, pg.meth k 14 = some f → (k = 5 ∧ f = 37) := by
  intro k f h
  unfold pg at h
  dsimp only at h
  split at h <;> first | (injection h with h; subst h; simp; done) | (simp_all; done) | cases h
theorem mi_16 : ∀ k f, pg.meth k 16 = some f → (k = 5 ∧ f = 38) := by
  intro k f h
  unfold pg at h
  dsimp only at h
  split at h <;> first | (injection h with h; subst h; simp; done) | (simp_all; done) | cases h
theorem mi_22 : ∀ k f, pg.meth k 22 = some f → (k = 5 ∧ f = 41) := by
  intro k f h
  unfold pg at h
  dsimp only at h
  split at h <;> first | (injection h with h; subst h; simp; done) | (simp_all; done) | cases h
theorem mi_12 : ∀ k f, pg.meth k 12 = some f → (k = 5 ∧ f = 35) := by
  intro k f h
  unfold pg at h
  dsimp only at h
  split at h <;> first | (injection h with h; subst h; simp; done) | (simp_all; done) | cases h
theorem mi_3 : ∀ k f, pg.meth k 3 = some f → (k = 5 ∧ f = 31) := by
  intro k f h
  unfold pg at h
  dsimp only at h
  split at h <;> first | (injection h with h; subst h; simp; done) | (simp_all; done) | cases h
theorem hp : HM pg := by repeat (first | rfl | constructor)
theorem law_true : ∀ ns : List Int, ns.length ≤ 63 → (∀ z ∈ ns, PySem.Builtin.Int.intBits z ≤ 1048576) → ∃ s, call pg 12 667 [.d (.scr ns)] ⟨[[]], []⟩ = .ok (.d (.bl true)) s := fun ns _ _ => law_true_of hp ns
set_option maxHeartbeats 0 in
theorem all_mk {l : PySem.W.OpenLaw} {w : World} {K : PySem.W.Frag} {h : Heap} {mg : Str → Option Value} {fa : Addr} (X : K.In h) (G : h.Ns mainGlobals mg) (hfa : mg (Str.ofString "law") = some (.ref fa))
    {a__wall a_is_whole a_is_name a_is_pair a_is_ascending a_are_names a_are_graves a_are_some_of a_is_right_kind a_first_wrong a_check_dig a__law_numbers a__law_names a__law_hidden a__law_dig a__law_refusal a__law_wrong_kinds a_law C_DigError C_BadDig a_BadDig____init__ C_BadOrder a_BadOrder____init__ C_Unknown a_Unknown____init__ C_Dig a_Dig____init__ a_Dig__kinds_with a_Dig__graves a_Dig__kinds a_Dig__names a_Dig__is_grave a_Dig__is_kind a_Dig__members a_Dig__has a_Dig__both : Addr} {t_LETTERS t_FIGURES t_MOST_SIGNS t_MOST_GRAVES t_MOST_KINDS t_WRONG_GRAVES t_WRONG_LIST : PySem.Tok}
    {od__wall an__wall : Option Addr} {sl__wall : Array (Option Value)} {oc__wall kV__wall dc__wall pm__wall cd__wall ct__wall : Value}
    {od_is_whole an_is_whole : Option Addr} {sl_is_whole : Array (Option Value)} {oc_is_whole kV_is_whole dc_is_whole pm_is_whole cd_is_whole ct_is_whole : Value}
    {od_is_name an_is_name : Option Addr} {sl_is_name : Array (Option Value)} {oc_is_name kV_is_name dc_is_name pm_is_name cd_is_name ct_is_name : Value}
    {od_is_pair an_is_pair : Option Addr} {sl_is_pair : Array (Option Value)} {oc_is_pair kV_is_pair dc_is_pair pm_is_pair cd_is_pair ct_is_pair : Value}
    {od_is_ascending an_is_ascending : Option Addr} {sl_is_ascending : Array (Option Value)} {oc_is_ascending kV_is_ascending dc_is_ascending pm_is_ascending cd_is_ascending ct_is_ascending : Value}
    {od_are_names an_are_names : Option Addr} {sl_are_names : Array (Option Value)} {oc_are_names kV_are_names dc_are_names pm_are_names cd_are_names ct_are_names : Value}
    {od_are_graves an_are_graves : Option Addr} {sl_are_graves : Array (Option Value)} {oc_are_graves kV_are_graves dc_are_graves pm_are_graves cd_are_graves ct_are_graves : Value}
    {od_are_some_of an_are_some_of : Option Addr} {sl_are_some_of : Array (Option Value)} {oc_are_some_of kV_are_some_of dc_are_some_of pm_are_some_of cd_are_some_of ct_are_some_of : Value}
    {od_is_right_kind an_is_right_kind : Option Addr} {sl_is_right_kind : Array (Option Value)} {oc_is_right_kind kV_is_right_kind dc_is_right_kind pm_is_right_kind cd_is_right_kind ct_is_right_kind : Value}
    {od_first_wrong an_first_wrong : Option Addr} {sl_first_wrong : Array (Option Value)} {oc_first_wrong kV_first_wrong dc_first_wrong pm_first_wrong cd_first_wrong ct_first_wrong : Value}
    {od_check_dig an_check_dig : Option Addr} {sl_check_dig : Array (Option Value)} {oc_check_dig kV_check_dig dc_check_dig pm_check_dig cd_check_dig ct_check_dig : Value}
    {od__law_numbers an__law_numbers : Option Addr} {sl__law_numbers : Array (Option Value)} {oc__law_numbers kV__law_numbers dc__law_numbers pm__law_numbers cd__law_numbers ct__law_numbers : Value}
    {od__law_names an__law_names : Option Addr} {sl__law_names : Array (Option Value)} {oc__law_names kV__law_names dc__law_names pm__law_names cd__law_names ct__law_names : Value}
    {od__law_hidden an__law_hidden : Option Addr} {sl__law_hidden : Array (Option Value)} {oc__law_hidden kV__law_hidden dc__law_hidden pm__law_hidden cd__law_hidden ct__law_hidden : Value}
    {od__law_dig an__law_dig : Option Addr} {sl__law_dig : Array (Option Value)} {oc__law_dig kV__law_dig dc__law_dig pm__law_dig cd__law_dig ct__law_dig : Value}
    {od__law_refusal an__law_refusal : Option Addr} {sl__law_refusal : Array (Option Value)} {oc__law_refusal kV__law_refusal dc__law_refusal pm__law_refusal cd__law_refusal ct__law_refusal : Value}
    {od__law_wrong_kinds an__law_wrong_kinds : Option Addr} {sl__law_wrong_kinds : Array (Option Value)} {oc__law_wrong_kinds kV__law_wrong_kinds dc__law_wrong_kinds pm__law_wrong_kinds cd__law_wrong_kinds ct__law_wrong_kinds : Value}
    {od_law an_law : Option Addr} {sl_law : Array (Option Value)} {oc_law kV_law dc_law pm_law cd_law ct_law : Value}
    {nm_BadDig q_BadDig : Str} {N_BadDig : Addr} {bs_BadDig bm_BadDig : List Value} {sn_BadDig : List Str} {sub_BadDig : List Value} {ab_BadDig : Bool} {col_BadDig : Option Bool} {dd_BadDig : Option Addr} {m0_BadDig m1_BadDig m2_BadDig m3_BadDig m5_BadDig : Option Value}
    {od_BadDig____init__ an_BadDig____init__ : Option Addr} {sl_BadDig____init__ : Array (Option Value)} {oc_BadDig____init__ kV_BadDig____init__ dc_BadDig____init__ pm_BadDig____init__ cd_BadDig____init__ ct_BadDig____init__ : Value}
    {nm_BadOrder q_BadOrder : Str} {N_BadOrder : Addr} {bs_BadOrder bm_BadOrder : List Value} {sn_BadOrder : List Str} {sub_BadOrder : List Value} {ab_BadOrder : Bool} {col_BadOrder : Option Bool} {dd_BadOrder : Option Addr} {m0_BadOrder m1_BadOrder m2_BadOrder m3_BadOrder m5_BadOrder : Option Value}
    {od_BadOrder____init__ an_BadOrder____init__ : Option Addr} {sl_BadOrder____init__ : Array (Option Value)} {oc_BadOrder____init__ kV_BadOrder____init__ dc_BadOrder____init__ pm_BadOrder____init__ cd_BadOrder____init__ ct_BadOrder____init__ : Value}
    {nm_Unknown q_Unknown : Str} {N_Unknown : Addr} {bs_Unknown bm_Unknown : List Value} {sn_Unknown : List Str} {sub_Unknown : List Value} {ab_Unknown : Bool} {col_Unknown : Option Bool} {dd_Unknown : Option Addr} {m0_Unknown m1_Unknown m2_Unknown m3_Unknown m5_Unknown : Option Value}
    {od_Unknown____init__ an_Unknown____init__ : Option Addr} {sl_Unknown____init__ : Array (Option Value)} {oc_Unknown____init__ kV_Unknown____init__ dc_Unknown____init__ pm_Unknown____init__ cd_Unknown____init__ ct_Unknown____init__ : Value}
    {od_Dig____init__ an_Dig____init__ : Option Addr} {sl_Dig____init__ : Array (Option Value)} {oc_Dig____init__ kV_Dig____init__ dc_Dig____init__ pm_Dig____init__ cd_Dig____init__ ct_Dig____init__ : Value}
    {od_Dig__kinds_with an_Dig__kinds_with : Option Addr} {sl_Dig__kinds_with : Array (Option Value)} {oc_Dig__kinds_with kV_Dig__kinds_with dc_Dig__kinds_with pm_Dig__kinds_with cd_Dig__kinds_with ct_Dig__kinds_with : Value}
    {od_Dig__graves an_Dig__graves : Option Addr} {sl_Dig__graves : Array (Option Value)} {oc_Dig__graves kV_Dig__graves dc_Dig__graves pm_Dig__graves cd_Dig__graves ct_Dig__graves : Value}
    {od_Dig__kinds an_Dig__kinds : Option Addr} {sl_Dig__kinds : Array (Option Value)} {oc_Dig__kinds kV_Dig__kinds dc_Dig__kinds pm_Dig__kinds cd_Dig__kinds ct_Dig__kinds : Value}
    {od_Dig__names an_Dig__names : Option Addr} {sl_Dig__names : Array (Option Value)} {oc_Dig__names kV_Dig__names dc_Dig__names pm_Dig__names cd_Dig__names ct_Dig__names : Value}
    {od_Dig__is_grave an_Dig__is_grave : Option Addr} {sl_Dig__is_grave : Array (Option Value)} {oc_Dig__is_grave kV_Dig__is_grave dc_Dig__is_grave pm_Dig__is_grave cd_Dig__is_grave ct_Dig__is_grave : Value}
    {od_Dig__is_kind an_Dig__is_kind : Option Addr} {sl_Dig__is_kind : Array (Option Value)} {oc_Dig__is_kind kV_Dig__is_kind dc_Dig__is_kind pm_Dig__is_kind cd_Dig__is_kind ct_Dig__is_kind : Value}
    {od_Dig__members an_Dig__members : Option Addr} {sl_Dig__members : Array (Option Value)} {oc_Dig__members kV_Dig__members dc_Dig__members pm_Dig__members cd_Dig__members ct_Dig__members : Value}
    {od_Dig__has an_Dig__has : Option Addr} {sl_Dig__has : Array (Option Value)} {oc_Dig__has kV_Dig__has dc_Dig__has pm_Dig__has cd_Dig__has ct_Dig__has : Value}
    {od_Dig__both an_Dig__both : Option Addr} {sl_Dig__both : Array (Option Value)} {oc_Dig__both kV_Dig__both dc_Dig__both pm_Dig__both cd_Dig__both ct_Dig__both : Value}
    (g__wall : PySem.W.nsIn K mainGlobals (Str.ofString "_wall") = some (some (.ref a__wall)))
    (l__wall : K.lookup a__wall = some ⟨oc__wall, od__wall, .func (PySem.W.fnOf (Str.ofString "_wall") (Str.ofString "_wall") (L2.defArgs s__wall) (L2.defBody s__wall) (L2.defScope s__wall) .none kV__wall dc__wall pm__wall an__wall cd__wall ct__wall), sl__wall⟩)
    (c__wall : PySem.W.codeIn K cd__wall (Str.ofString "_wall") = true)
    (k__wall : PySem.W.keepIn K (.ref a__wall) = true)
    (g_is_whole : PySem.W.nsIn K mainGlobals (Str.ofString "is_whole") = some (some (.ref a_is_whole)))
    (l_is_whole : K.lookup a_is_whole = some ⟨oc_is_whole, od_is_whole, .func (PySem.W.fnOf (Str.ofString "is_whole") (Str.ofString "is_whole") (L2.defArgs s__law_is_integer) (L2.defBody s__law_is_integer) (L2.defScope s__law_is_integer) .none kV_is_whole dc_is_whole pm_is_whole an_is_whole cd_is_whole ct_is_whole), sl_is_whole⟩)
    (c_is_whole : PySem.W.codeIn K cd_is_whole (Str.ofString "is_whole") = true)
    (k_is_whole : PySem.W.keepIn K (.ref a_is_whole) = true)
    (g_is_name : PySem.W.nsIn K mainGlobals (Str.ofString "is_name") = some (some (.ref a_is_name)))
    (l_is_name : K.lookup a_is_name = some ⟨oc_is_name, od_is_name, .func (PySem.W.fnOf (Str.ofString "is_name") (Str.ofString "is_name") (L2.defArgs s_is_name) (L2.defBody s_is_name) (L2.defScope s_is_name) .none kV_is_name dc_is_name pm_is_name an_is_name cd_is_name ct_is_name), sl_is_name⟩)
    (c_is_name : PySem.W.codeIn K cd_is_name (Str.ofString "is_name") = true)
    (k_is_name : PySem.W.keepIn K (.ref a_is_name) = true)
    (g_is_pair : PySem.W.nsIn K mainGlobals (Str.ofString "is_pair") = some (some (.ref a_is_pair)))
    (l_is_pair : K.lookup a_is_pair = some ⟨oc_is_pair, od_is_pair, .func (PySem.W.fnOf (Str.ofString "is_pair") (Str.ofString "is_pair") (L2.defArgs s_is_pair) (L2.defBody s_is_pair) (L2.defScope s_is_pair) .none kV_is_pair dc_is_pair pm_is_pair an_is_pair cd_is_pair ct_is_pair), sl_is_pair⟩)
    (c_is_pair : PySem.W.codeIn K cd_is_pair (Str.ofString "is_pair") = true)
    (k_is_pair : PySem.W.keepIn K (.ref a_is_pair) = true)
    (g_is_ascending : PySem.W.nsIn K mainGlobals (Str.ofString "is_ascending") = some (some (.ref a_is_ascending)))
    (l_is_ascending : K.lookup a_is_ascending = some ⟨oc_is_ascending, od_is_ascending, .func (PySem.W.fnOf (Str.ofString "is_ascending") (Str.ofString "is_ascending") (L2.defArgs s_is_ascending) (L2.defBody s_is_ascending) (L2.defScope s_is_ascending) .none kV_is_ascending dc_is_ascending pm_is_ascending an_is_ascending cd_is_ascending ct_is_ascending), sl_is_ascending⟩)
    (c_is_ascending : PySem.W.codeIn K cd_is_ascending (Str.ofString "is_ascending") = true)
    (k_is_ascending : PySem.W.keepIn K (.ref a_is_ascending) = true)
    (g_are_names : PySem.W.nsIn K mainGlobals (Str.ofString "are_names") = some (some (.ref a_are_names)))
    (l_are_names : K.lookup a_are_names = some ⟨oc_are_names, od_are_names, .func (PySem.W.fnOf (Str.ofString "are_names") (Str.ofString "are_names") (L2.defArgs s_are_names) (L2.defBody s_are_names) (L2.defScope s_are_names) .none kV_are_names dc_are_names pm_are_names an_are_names cd_are_names ct_are_names), sl_are_names⟩)
    (c_are_names : PySem.W.codeIn K cd_are_names (Str.ofString "are_names") = true)
    (k_are_names : PySem.W.keepIn K (.ref a_are_names) = true)
    (g_are_graves : PySem.W.nsIn K mainGlobals (Str.ofString "are_graves") = some (some (.ref a_are_graves)))
    (l_are_graves : K.lookup a_are_graves = some ⟨oc_are_graves, od_are_graves, .func (PySem.W.fnOf (Str.ofString "are_graves") (Str.ofString "are_graves") (L2.defArgs s_are_graves) (L2.defBody s_are_graves) (L2.defScope s_are_graves) .none kV_are_graves dc_are_graves pm_are_graves an_are_graves cd_are_graves ct_are_graves), sl_are_graves⟩)
    (c_are_graves : PySem.W.codeIn K cd_are_graves (Str.ofString "are_graves") = true)
    (k_are_graves : PySem.W.keepIn K (.ref a_are_graves) = true)
    (g_are_some_of : PySem.W.nsIn K mainGlobals (Str.ofString "are_some_of") = some (some (.ref a_are_some_of)))
    (l_are_some_of : K.lookup a_are_some_of = some ⟨oc_are_some_of, od_are_some_of, .func (PySem.W.fnOf (Str.ofString "are_some_of") (Str.ofString "are_some_of") (L2.defArgs s_are_some_of) (L2.defBody s_are_some_of) (L2.defScope s_are_some_of) .none kV_are_some_of dc_are_some_of pm_are_some_of an_are_some_of cd_are_some_of ct_are_some_of), sl_are_some_of⟩)
    (c_are_some_of : PySem.W.codeIn K cd_are_some_of (Str.ofString "are_some_of") = true)
    (k_are_some_of : PySem.W.keepIn K (.ref a_are_some_of) = true)
    (g_is_right_kind : PySem.W.nsIn K mainGlobals (Str.ofString "is_right_kind") = some (some (.ref a_is_right_kind)))
    (l_is_right_kind : K.lookup a_is_right_kind = some ⟨oc_is_right_kind, od_is_right_kind, .func (PySem.W.fnOf (Str.ofString "is_right_kind") (Str.ofString "is_right_kind") (L2.defArgs s_is_right_kind) (L2.defBody s_is_right_kind) (L2.defScope s_is_right_kind) .none kV_is_right_kind dc_is_right_kind pm_is_right_kind an_is_right_kind cd_is_right_kind ct_is_right_kind), sl_is_right_kind⟩)
    (c_is_right_kind : PySem.W.codeIn K cd_is_right_kind (Str.ofString "is_right_kind") = true)
    (k_is_right_kind : PySem.W.keepIn K (.ref a_is_right_kind) = true)
    (g_first_wrong : PySem.W.nsIn K mainGlobals (Str.ofString "first_wrong") = some (some (.ref a_first_wrong)))
    (l_first_wrong : K.lookup a_first_wrong = some ⟨oc_first_wrong, od_first_wrong, .func (PySem.W.fnOf (Str.ofString "first_wrong") (Str.ofString "first_wrong") (L2.defArgs s_first_wrong) (L2.defBody s_first_wrong) (L2.defScope s_first_wrong) .none kV_first_wrong dc_first_wrong pm_first_wrong an_first_wrong cd_first_wrong ct_first_wrong), sl_first_wrong⟩)
    (c_first_wrong : PySem.W.codeIn K cd_first_wrong (Str.ofString "first_wrong") = true)
    (k_first_wrong : PySem.W.keepIn K (.ref a_first_wrong) = true)
    (g_check_dig : PySem.W.nsIn K mainGlobals (Str.ofString "check_dig") = some (some (.ref a_check_dig)))
    (l_check_dig : K.lookup a_check_dig = some ⟨oc_check_dig, od_check_dig, .func (PySem.W.fnOf (Str.ofString "check_dig") (Str.ofString "check_dig") (L2.defArgs s_check_dig) (L2.defBody s_check_dig) (L2.defScope s_check_dig) .none kV_check_dig dc_check_dig pm_check_dig an_check_dig cd_check_dig ct_check_dig), sl_check_dig⟩)
    (c_check_dig : PySem.W.codeIn K cd_check_dig (Str.ofString "check_dig") = true)
    (k_check_dig : PySem.W.keepIn K (.ref a_check_dig) = true)
    (g__law_numbers : PySem.W.nsIn K mainGlobals (Str.ofString "_law_numbers") = some (some (.ref a__law_numbers)))
    (l__law_numbers : K.lookup a__law_numbers = some ⟨oc__law_numbers, od__law_numbers, .func (PySem.W.fnOf (Str.ofString "_law_numbers") (Str.ofString "_law_numbers") (L2.defArgs s__law_numbers) (L2.defBody s__law_numbers) (L2.defScope s__law_numbers) .none kV__law_numbers dc__law_numbers pm__law_numbers an__law_numbers cd__law_numbers ct__law_numbers), sl__law_numbers⟩)
    (c__law_numbers : PySem.W.codeIn K cd__law_numbers (Str.ofString "_law_numbers") = true)
    (k__law_numbers : PySem.W.keepIn K (.ref a__law_numbers) = true)
    (g__law_names : PySem.W.nsIn K mainGlobals (Str.ofString "_law_names") = some (some (.ref a__law_names)))
    (l__law_names : K.lookup a__law_names = some ⟨oc__law_names, od__law_names, .func (PySem.W.fnOf (Str.ofString "_law_names") (Str.ofString "_law_names") (L2.defArgs s__law_names) (L2.defBody s__law_names) (L2.defScope s__law_names) .none kV__law_names dc__law_names pm__law_names an__law_names cd__law_names ct__law_names), sl__law_names⟩)
    (c__law_names : PySem.W.codeIn K cd__law_names (Str.ofString "_law_names") = true)
    (k__law_names : PySem.W.keepIn K (.ref a__law_names) = true)
    (g__law_hidden : PySem.W.nsIn K mainGlobals (Str.ofString "_law_hidden") = some (some (.ref a__law_hidden)))
    (l__law_hidden : K.lookup a__law_hidden = some ⟨oc__law_hidden, od__law_hidden, .func (PySem.W.fnOf (Str.ofString "_law_hidden") (Str.ofString "_law_hidden") (L2.defArgs s__law_hidden_v1) (L2.defBody s__law_hidden_v1) (L2.defScope s__law_hidden_v1) .none kV__law_hidden dc__law_hidden pm__law_hidden an__law_hidden cd__law_hidden ct__law_hidden), sl__law_hidden⟩)
    (c__law_hidden : PySem.W.codeIn K cd__law_hidden (Str.ofString "_law_hidden") = true)
    (k__law_hidden : PySem.W.keepIn K (.ref a__law_hidden) = true)
    (g__law_dig : PySem.W.nsIn K mainGlobals (Str.ofString "_law_dig") = some (some (.ref a__law_dig)))
    (l__law_dig : K.lookup a__law_dig = some ⟨oc__law_dig, od__law_dig, .func (PySem.W.fnOf (Str.ofString "_law_dig") (Str.ofString "_law_dig") (L2.defArgs s__law_dig) (L2.defBody s__law_dig) (L2.defScope s__law_dig) .none kV__law_dig dc__law_dig pm__law_dig an__law_dig cd__law_dig ct__law_dig), sl__law_dig⟩)
    (c__law_dig : PySem.W.codeIn K cd__law_dig (Str.ofString "_law_dig") = true)
    (k__law_dig : PySem.W.keepIn K (.ref a__law_dig) = true)
    (g__law_refusal : PySem.W.nsIn K mainGlobals (Str.ofString "_law_refusal") = some (some (.ref a__law_refusal)))
    (l__law_refusal : K.lookup a__law_refusal = some ⟨oc__law_refusal, od__law_refusal, .func (PySem.W.fnOf (Str.ofString "_law_refusal") (Str.ofString "_law_refusal") (L2.defArgs s__law_refusal_v6) (L2.defBody s__law_refusal_v6) (L2.defScope s__law_refusal_v6) .none kV__law_refusal dc__law_refusal pm__law_refusal an__law_refusal cd__law_refusal ct__law_refusal), sl__law_refusal⟩)
    (c__law_refusal : PySem.W.codeIn K cd__law_refusal (Str.ofString "_law_refusal") = true)
    (k__law_refusal : PySem.W.keepIn K (.ref a__law_refusal) = true)
    (g__law_wrong_kinds : PySem.W.nsIn K mainGlobals (Str.ofString "_law_wrong_kinds") = some (some (.ref a__law_wrong_kinds)))
    (l__law_wrong_kinds : K.lookup a__law_wrong_kinds = some ⟨oc__law_wrong_kinds, od__law_wrong_kinds, .func (PySem.W.fnOf (Str.ofString "_law_wrong_kinds") (Str.ofString "_law_wrong_kinds") (L2.defArgs s__law_wrong_kinds) (L2.defBody s__law_wrong_kinds) (L2.defScope s__law_wrong_kinds) .none kV__law_wrong_kinds dc__law_wrong_kinds pm__law_wrong_kinds an__law_wrong_kinds cd__law_wrong_kinds ct__law_wrong_kinds), sl__law_wrong_kinds⟩)
    (c__law_wrong_kinds : PySem.W.codeIn K cd__law_wrong_kinds (Str.ofString "_law_wrong_kinds") = true)
    (k__law_wrong_kinds : PySem.W.keepIn K (.ref a__law_wrong_kinds) = true)
    (g_law : PySem.W.nsIn K mainGlobals (Str.ofString "law") = some (some (.ref a_law)))
    (l_law : K.lookup a_law = some ⟨oc_law, od_law, .func (PySem.W.fnOf (Str.ofString "law") (Str.ofString "law") (L2.defArgs s_law_v69) (L2.defBody s_law_v69) (L2.defScope s_law_v69) .none kV_law dc_law pm_law an_law cd_law ct_law), sl_law⟩)
    (c_law : PySem.W.codeIn K cd_law (Str.ofString "law") = true)
    (k_law : PySem.W.keepIn K (.ref a_law) = true)
    (g_DigError : PySem.W.nsIn K mainGlobals (Str.ofString "DigError") = some (some (.ref C_DigError)))
    (g_BadDig : PySem.W.nsIn K mainGlobals (Str.ofString "BadDig") = some (some (.ref C_BadDig)))
    (xL_BadDig : K.lookup C_BadDig = some (excClassObj nm_BadDig q_BadDig C_BadDig N_BadDig bs_BadDig bm_BadDig true sn_BadDig sub_BadDig ab_BadDig col_BadDig dd_BadDig m0_BadDig m1_BadDig m2_BadDig m3_BadDig m5_BadDig "ValueError.__new__"))
    (rv_BadDig : PySem.HandSPX.refsVE bm_BadDig = true)
    (sa_BadDig : PySem.W.findIn K (.ref C_BadDig) (Str.ofString "__setattr__") = some (some (.builtin "object.__setattr__")))
    (ga_BadDig : PySem.W.findIn K (.ref C_BadDig) (Str.ofString "__getattribute__") = some (some (.builtin "BaseException.__getattribute__")))
    (gg_BadDig : PySem.W.findIn K (.ref C_BadDig) (Str.ofString "__getattr__") = some none)
    (no_BadDig : PySem.W.findIn K (.ref C_BadDig) (Str.ofString "index") = some none)
    (fi_BadDig____init__ : PySem.W.findIn K (.ref C_BadDig) (Str.ofString "__init__") = some (some (.ref a_BadDig____init__)))
    (t_BadDig____init__ : PySem.W.typeIn K (.ref a_BadDig____init__) = some (.type "function"))
    (l_BadDig____init__ : K.lookup a_BadDig____init__ = some ⟨oc_BadDig____init__, od_BadDig____init__, .func (PySem.W.fnOf (Str.ofString "__init__") (Str.ofString "BadDig.__init__") (L2.defArgs s_X_BadDig____init__) (L2.defBody s_X_BadDig____init__) (L2.defScope s_X_BadDig____init__) .none kV_BadDig____init__ dc_BadDig____init__ pm_BadDig____init__ an_BadDig____init__ cd_BadDig____init__ ct_BadDig____init__), sl_BadDig____init__⟩)
    (c_BadDig____init__ : PySem.W.codeIn K cd_BadDig____init__ (Str.ofString "BadDig.__init__") = true)
    (k_BadDig____init__ : PySem.W.keepIn K (.ref a_BadDig____init__) = true)
    (kC_BadDig : PySem.W.keepIn K (.ref C_BadDig) = true)
    (eC_BadDig : PySem.W.subIn K (.ref C_BadDig) (.type "BaseException") = some true)
    (tC_BadDig : PySem.W.typeIn K (.ref C_BadDig) = some (.type "type"))
    (hd_BadDig : PySem.W.hasDictIn K C_BadDig = true)
    (cc_BadDig : PySem.W.findIn K (.ref C_BadDig) (Str.ofString "__class__") = some (some (.builtin "object.__class__")))
    (mr_BadDig : PySem.W.mroIn K C_BadDig (.type "object") = some true)
    (g_BadOrder : PySem.W.nsIn K mainGlobals (Str.ofString "BadOrder") = some (some (.ref C_BadOrder)))
    (xL_BadOrder : K.lookup C_BadOrder = some (excClassObj nm_BadOrder q_BadOrder C_BadOrder N_BadOrder bs_BadOrder bm_BadOrder true sn_BadOrder sub_BadOrder ab_BadOrder col_BadOrder dd_BadOrder m0_BadOrder m1_BadOrder m2_BadOrder m3_BadOrder m5_BadOrder "ValueError.__new__"))
    (rv_BadOrder : PySem.HandSPX.refsVE bm_BadOrder = true)
    (sa_BadOrder : PySem.W.findIn K (.ref C_BadOrder) (Str.ofString "__setattr__") = some (some (.builtin "object.__setattr__")))
    (ga_BadOrder : PySem.W.findIn K (.ref C_BadOrder) (Str.ofString "__getattribute__") = some (some (.builtin "BaseException.__getattribute__")))
    (gg_BadOrder : PySem.W.findIn K (.ref C_BadOrder) (Str.ofString "__getattr__") = some none)
    (no_BadOrder : PySem.W.findIn K (.ref C_BadOrder) (Str.ofString "index") = some none)
    (fi_BadOrder____init__ : PySem.W.findIn K (.ref C_BadOrder) (Str.ofString "__init__") = some (some (.ref a_BadOrder____init__)))
    (t_BadOrder____init__ : PySem.W.typeIn K (.ref a_BadOrder____init__) = some (.type "function"))
    (l_BadOrder____init__ : K.lookup a_BadOrder____init__ = some ⟨oc_BadOrder____init__, od_BadOrder____init__, .func (PySem.W.fnOf (Str.ofString "__init__") (Str.ofString "BadOrder.__init__") (L2.defArgs s_X_BadOrder____init__) (L2.defBody s_X_BadOrder____init__) (L2.defScope s_X_BadOrder____init__) .none kV_BadOrder____init__ dc_BadOrder____init__ pm_BadOrder____init__ an_BadOrder____init__ cd_BadOrder____init__ ct_BadOrder____init__), sl_BadOrder____init__⟩)
    (c_BadOrder____init__ : PySem.W.codeIn K cd_BadOrder____init__ (Str.ofString "BadOrder.__init__") = true)
    (k_BadOrder____init__ : PySem.W.keepIn K (.ref a_BadOrder____init__) = true)
    (kC_BadOrder : PySem.W.keepIn K (.ref C_BadOrder) = true)
    (eC_BadOrder : PySem.W.subIn K (.ref C_BadOrder) (.type "BaseException") = some true)
    (tC_BadOrder : PySem.W.typeIn K (.ref C_BadOrder) = some (.type "type"))
    (hd_BadOrder : PySem.W.hasDictIn K C_BadOrder = true)
    (cc_BadOrder : PySem.W.findIn K (.ref C_BadOrder) (Str.ofString "__class__") = some (some (.builtin "object.__class__")))
    (mr_BadOrder : PySem.W.mroIn K C_BadOrder (.type "object") = some true)
    (g_Unknown : PySem.W.nsIn K mainGlobals (Str.ofString "Unknown") = some (some (.ref C_Unknown)))
    (xL_Unknown : K.lookup C_Unknown = some (excClassObj nm_Unknown q_Unknown C_Unknown N_Unknown bs_Unknown bm_Unknown true sn_Unknown sub_Unknown ab_Unknown col_Unknown dd_Unknown m0_Unknown m1_Unknown m2_Unknown m3_Unknown m5_Unknown "ValueError.__new__"))
    (rv_Unknown : PySem.HandSPX.refsVE bm_Unknown = true)
    (sa_Unknown : PySem.W.findIn K (.ref C_Unknown) (Str.ofString "__setattr__") = some (some (.builtin "object.__setattr__")))
    (ga_Unknown : PySem.W.findIn K (.ref C_Unknown) (Str.ofString "__getattribute__") = some (some (.builtin "BaseException.__getattribute__")))
    (gg_Unknown : PySem.W.findIn K (.ref C_Unknown) (Str.ofString "__getattr__") = some none)
    (no_Unknown : PySem.W.findIn K (.ref C_Unknown) (Str.ofString "name") = some none)
    (fi_Unknown____init__ : PySem.W.findIn K (.ref C_Unknown) (Str.ofString "__init__") = some (some (.ref a_Unknown____init__)))
    (t_Unknown____init__ : PySem.W.typeIn K (.ref a_Unknown____init__) = some (.type "function"))
    (l_Unknown____init__ : K.lookup a_Unknown____init__ = some ⟨oc_Unknown____init__, od_Unknown____init__, .func (PySem.W.fnOf (Str.ofString "__init__") (Str.ofString "Unknown.__init__") (L2.defArgs s_X_Unknown____init__) (L2.defBody s_X_Unknown____init__) (L2.defScope s_X_Unknown____init__) .none kV_Unknown____init__ dc_Unknown____init__ pm_Unknown____init__ an_Unknown____init__ cd_Unknown____init__ ct_Unknown____init__), sl_Unknown____init__⟩)
    (c_Unknown____init__ : PySem.W.codeIn K cd_Unknown____init__ (Str.ofString "Unknown.__init__") = true)
    (k_Unknown____init__ : PySem.W.keepIn K (.ref a_Unknown____init__) = true)
    (kC_Unknown : PySem.W.keepIn K (.ref C_Unknown) = true)
    (eC_Unknown : PySem.W.subIn K (.ref C_Unknown) (.type "BaseException") = some true)
    (tC_Unknown : PySem.W.typeIn K (.ref C_Unknown) = some (.type "type"))
    (hd_Unknown : PySem.W.hasDictIn K C_Unknown = true)
    (cc_Unknown : PySem.W.findIn K (.ref C_Unknown) (Str.ofString "__class__") = some (some (.builtin "object.__class__")))
    (mr_Unknown : PySem.W.mroIn K C_Unknown (.type "object") = some true)
    (g_Dig : PySem.W.nsIn K mainGlobals (Str.ofString "Dig") = some (some (.ref C_Dig)))
    (pg_Dig : PySem.W.plainGet K C_Dig Str.empty = true)
    (hd_Dig : PySem.W.hasDictIn K C_Dig = true)
    (po_Dig : PySem.W.plainOver K C_Dig = true)
    (sa_Dig : PySem.W.findIn K (.ref C_Dig) (Str.ofString "__setattr__") = some (some (.builtin "object.__setattr__")))
    (mk_Dig : PySem.W.makesIn K C_Dig = true)
    (kp_Dig : PySem.W.keepIn K (.ref C_Dig) = true)
    (na_Dig__graves : PySem.W.findIn K (.ref C_Dig) (Str.ofString "_graves") = some none)
    (na_Dig__members : PySem.W.findIn K (.ref C_Dig) (Str.ofString "_members") = some none)
    (na_Dig__had : PySem.W.findIn K (.ref C_Dig) (Str.ofString "_had") = some none)
    (fi_Dig____init__ : PySem.W.findIn K (.ref C_Dig) (Str.ofString "__init__") = some (some (.ref a_Dig____init__)))
    (i_Dig____init__ : PySem.W.isFn K (.ref a_Dig____init__) = true)
    (l_Dig____init__ : K.lookup a_Dig____init__ = some ⟨oc_Dig____init__, od_Dig____init__, .func (PySem.W.fnOf (Str.ofString "__init__") (Str.ofString "Dig.__init__") (L2.defArgs s_Dig____init__) (L2.defBody s_Dig____init__) (L2.defScope s_Dig____init__) .none kV_Dig____init__ dc_Dig____init__ pm_Dig____init__ an_Dig____init__ cd_Dig____init__ ct_Dig____init__), sl_Dig____init__⟩)
    (c_Dig____init__ : PySem.W.codeIn K cd_Dig____init__ (Str.ofString "Dig.__init__") = true)
    (k_Dig____init__ : PySem.W.keepIn K (.ref a_Dig____init__) = true)
    (fi_Dig__kinds_with : PySem.W.findIn K (.ref C_Dig) (Str.ofString "kinds_with") = some (some (.ref a_Dig__kinds_with)))
    (i_Dig__kinds_with : PySem.W.isFn K (.ref a_Dig__kinds_with) = true)
    (l_Dig__kinds_with : K.lookup a_Dig__kinds_with = some ⟨oc_Dig__kinds_with, od_Dig__kinds_with, .func (PySem.W.fnOf (Str.ofString "kinds_with") (Str.ofString "Dig.kinds_with") (L2.defArgs s_Dig__kinds_with) (L2.defBody s_Dig__kinds_with) (L2.defScope s_Dig__kinds_with) .none kV_Dig__kinds_with dc_Dig__kinds_with pm_Dig__kinds_with an_Dig__kinds_with cd_Dig__kinds_with ct_Dig__kinds_with), sl_Dig__kinds_with⟩)
    (c_Dig__kinds_with : PySem.W.codeIn K cd_Dig__kinds_with (Str.ofString "Dig.kinds_with") = true)
    (k_Dig__kinds_with : PySem.W.keepIn K (.ref a_Dig__kinds_with) = true)
    (fi_Dig__graves : PySem.W.findIn K (.ref C_Dig) (Str.ofString "graves") = some (some (.ref a_Dig__graves)))
    (i_Dig__graves : PySem.W.isFn K (.ref a_Dig__graves) = true)
    (l_Dig__graves : K.lookup a_Dig__graves = some ⟨oc_Dig__graves, od_Dig__graves, .func (PySem.W.fnOf (Str.ofString "graves") (Str.ofString "Dig.graves") (L2.defArgs s_Dig__graves) (L2.defBody s_Dig__graves) (L2.defScope s_Dig__graves) .none kV_Dig__graves dc_Dig__graves pm_Dig__graves an_Dig__graves cd_Dig__graves ct_Dig__graves), sl_Dig__graves⟩)
    (c_Dig__graves : PySem.W.codeIn K cd_Dig__graves (Str.ofString "Dig.graves") = true)
    (k_Dig__graves : PySem.W.keepIn K (.ref a_Dig__graves) = true)
    (fi_Dig__kinds : PySem.W.findIn K (.ref C_Dig) (Str.ofString "kinds") = some (some (.ref a_Dig__kinds)))
    (i_Dig__kinds : PySem.W.isFn K (.ref a_Dig__kinds) = true)
    (l_Dig__kinds : K.lookup a_Dig__kinds = some ⟨oc_Dig__kinds, od_Dig__kinds, .func (PySem.W.fnOf (Str.ofString "kinds") (Str.ofString "Dig.kinds") (L2.defArgs s_Dig__kinds) (L2.defBody s_Dig__kinds) (L2.defScope s_Dig__kinds) .none kV_Dig__kinds dc_Dig__kinds pm_Dig__kinds an_Dig__kinds cd_Dig__kinds ct_Dig__kinds), sl_Dig__kinds⟩)
    (c_Dig__kinds : PySem.W.codeIn K cd_Dig__kinds (Str.ofString "Dig.kinds") = true)
    (k_Dig__kinds : PySem.W.keepIn K (.ref a_Dig__kinds) = true)
    (fi_Dig__names : PySem.W.findIn K (.ref C_Dig) (Str.ofString "names") = some (some (.ref a_Dig__names)))
    (i_Dig__names : PySem.W.isFn K (.ref a_Dig__names) = true)
    (l_Dig__names : K.lookup a_Dig__names = some ⟨oc_Dig__names, od_Dig__names, .func (PySem.W.fnOf (Str.ofString "names") (Str.ofString "Dig.names") (L2.defArgs s_Dig__names) (L2.defBody s_Dig__names) (L2.defScope s_Dig__names) .none kV_Dig__names dc_Dig__names pm_Dig__names an_Dig__names cd_Dig__names ct_Dig__names), sl_Dig__names⟩)
    (c_Dig__names : PySem.W.codeIn K cd_Dig__names (Str.ofString "Dig.names") = true)
    (k_Dig__names : PySem.W.keepIn K (.ref a_Dig__names) = true)
    (fi_Dig__is_grave : PySem.W.findIn K (.ref C_Dig) (Str.ofString "is_grave") = some (some (.ref a_Dig__is_grave)))
    (i_Dig__is_grave : PySem.W.isFn K (.ref a_Dig__is_grave) = true)
    (l_Dig__is_grave : K.lookup a_Dig__is_grave = some ⟨oc_Dig__is_grave, od_Dig__is_grave, .func (PySem.W.fnOf (Str.ofString "is_grave") (Str.ofString "Dig.is_grave") (L2.defArgs s_Dig__is_grave_v1) (L2.defBody s_Dig__is_grave_v1) (L2.defScope s_Dig__is_grave_v1) .none kV_Dig__is_grave dc_Dig__is_grave pm_Dig__is_grave an_Dig__is_grave cd_Dig__is_grave ct_Dig__is_grave), sl_Dig__is_grave⟩)
    (c_Dig__is_grave : PySem.W.codeIn K cd_Dig__is_grave (Str.ofString "Dig.is_grave") = true)
    (k_Dig__is_grave : PySem.W.keepIn K (.ref a_Dig__is_grave) = true)
    (fi_Dig__is_kind : PySem.W.findIn K (.ref C_Dig) (Str.ofString "is_kind") = some (some (.ref a_Dig__is_kind)))
    (i_Dig__is_kind : PySem.W.isFn K (.ref a_Dig__is_kind) = true)
    (l_Dig__is_kind : K.lookup a_Dig__is_kind = some ⟨oc_Dig__is_kind, od_Dig__is_kind, .func (PySem.W.fnOf (Str.ofString "is_kind") (Str.ofString "Dig.is_kind") (L2.defArgs s_Dig__is_kind) (L2.defBody s_Dig__is_kind) (L2.defScope s_Dig__is_kind) .none kV_Dig__is_kind dc_Dig__is_kind pm_Dig__is_kind an_Dig__is_kind cd_Dig__is_kind ct_Dig__is_kind), sl_Dig__is_kind⟩)
    (c_Dig__is_kind : PySem.W.codeIn K cd_Dig__is_kind (Str.ofString "Dig.is_kind") = true)
    (k_Dig__is_kind : PySem.W.keepIn K (.ref a_Dig__is_kind) = true)
    (fi_Dig__members : PySem.W.findIn K (.ref C_Dig) (Str.ofString "members") = some (some (.ref a_Dig__members)))
    (i_Dig__members : PySem.W.isFn K (.ref a_Dig__members) = true)
    (l_Dig__members : K.lookup a_Dig__members = some ⟨oc_Dig__members, od_Dig__members, .func (PySem.W.fnOf (Str.ofString "members") (Str.ofString "Dig.members") (L2.defArgs s_Dig__members) (L2.defBody s_Dig__members) (L2.defScope s_Dig__members) .none kV_Dig__members dc_Dig__members pm_Dig__members an_Dig__members cd_Dig__members ct_Dig__members), sl_Dig__members⟩)
    (c_Dig__members : PySem.W.codeIn K cd_Dig__members (Str.ofString "Dig.members") = true)
    (k_Dig__members : PySem.W.keepIn K (.ref a_Dig__members) = true)
    (fi_Dig__has : PySem.W.findIn K (.ref C_Dig) (Str.ofString "has") = some (some (.ref a_Dig__has)))
    (i_Dig__has : PySem.W.isFn K (.ref a_Dig__has) = true)
    (l_Dig__has : K.lookup a_Dig__has = some ⟨oc_Dig__has, od_Dig__has, .func (PySem.W.fnOf (Str.ofString "has") (Str.ofString "Dig.has") (L2.defArgs s_Dig__has_v2) (L2.defBody s_Dig__has_v2) (L2.defScope s_Dig__has_v2) .none kV_Dig__has dc_Dig__has pm_Dig__has an_Dig__has cd_Dig__has ct_Dig__has), sl_Dig__has⟩)
    (c_Dig__has : PySem.W.codeIn K cd_Dig__has (Str.ofString "Dig.has") = true)
    (k_Dig__has : PySem.W.keepIn K (.ref a_Dig__has) = true)
    (fi_Dig__both : PySem.W.findIn K (.ref C_Dig) (Str.ofString "both") = some (some (.ref a_Dig__both)))
    (i_Dig__both : PySem.W.isFn K (.ref a_Dig__both) = true)
    (l_Dig__both : K.lookup a_Dig__both = some ⟨oc_Dig__both, od_Dig__both, .func (PySem.W.fnOf (Str.ofString "both") (Str.ofString "Dig.both") (L2.defArgs s_Dig__both_v3) (L2.defBody s_Dig__both_v3) (L2.defScope s_Dig__both_v3) .none kV_Dig__both dc_Dig__both pm_Dig__both an_Dig__both cd_Dig__both ct_Dig__both), sl_Dig__both⟩)
    (c_Dig__both : PySem.W.codeIn K cd_Dig__both (Str.ofString "Dig.both") = true)
    (k_Dig__both : PySem.W.keepIn K (.ref a_Dig__both) = true)
    (sp : PySem.W.specialIn K (.builtin "object.__class__") (Str.ofString "__get__") = some (some (.builtin "getset_descriptor.__get__")))
    (tk : PySem.W.takesIn K (.builtin "object.__class__") = some true)
    (eC_DigError : PySem.W.subIn K (.ref C_DigError) (.type "BaseException") = some true)
    (tC_DigError : PySem.W.typeIn K (.ref C_DigError) = some (.type "type"))
    (ic_DigError : PySem.W.isClsIn K C_DigError = true)
    (ic_BadDig : PySem.W.isClsIn K C_BadDig = true)
    (ic_BadOrder : PySem.W.isClsIn K C_BadOrder = true)
    (ic_Unknown : PySem.W.isClsIn K C_Unknown = true)
    (su_DigError_DigError : PySem.W.subIn K (.ref C_DigError) (.ref C_DigError) = some true)
    (sv_BadDig : PySem.W.subIn K (.ref C_BadDig) (.type "ValueError") = some true)
    (su_BadDig_DigError : PySem.W.subIn K (.ref C_BadDig) (.ref C_DigError) = some true)
    (su_BadDig_BadDig : PySem.W.subIn K (.ref C_BadDig) (.ref C_BadDig) = some true)
    (su_BadDig_BadOrder : PySem.W.subIn K (.ref C_BadDig) (.ref C_BadOrder) = some false)
    (su_BadDig_Unknown : PySem.W.subIn K (.ref C_BadDig) (.ref C_Unknown) = some false)
    (sv_BadOrder : PySem.W.subIn K (.ref C_BadOrder) (.type "ValueError") = some true)
    (su_BadOrder_DigError : PySem.W.subIn K (.ref C_BadOrder) (.ref C_DigError) = some true)
    (su_BadOrder_BadDig : PySem.W.subIn K (.ref C_BadOrder) (.ref C_BadDig) = some false)
    (su_BadOrder_BadOrder : PySem.W.subIn K (.ref C_BadOrder) (.ref C_BadOrder) = some true)
    (su_BadOrder_Unknown : PySem.W.subIn K (.ref C_BadOrder) (.ref C_Unknown) = some false)
    (sv_Unknown : PySem.W.subIn K (.ref C_Unknown) (.type "ValueError") = some true)
    (su_Unknown_DigError : PySem.W.subIn K (.ref C_Unknown) (.ref C_DigError) = some true)
    (su_Unknown_BadDig : PySem.W.subIn K (.ref C_Unknown) (.ref C_BadDig) = some false)
    (su_Unknown_BadOrder : PySem.W.subIn K (.ref C_Unknown) (.ref C_BadOrder) = some false)
    (su_Unknown_Unknown : PySem.W.subIn K (.ref C_Unknown) (.ref C_Unknown) = some true)
    (z_len : PySem.W.nsIn K mainGlobals (Str.ofString "len") = some none)
    (z_all : PySem.W.nsIn K mainGlobals (Str.ofString "all") = some none)
    (z_any : PySem.W.nsIn K mainGlobals (Str.ofString "any") = some none)
    (z_sum : PySem.W.nsIn K mainGlobals (Str.ofString "sum") = some none)
    (z_min : PySem.W.nsIn K mainGlobals (Str.ofString "min") = some none)
    (z_max : PySem.W.nsIn K mainGlobals (Str.ofString "max") = some none)
    (z_sorted : PySem.W.nsIn K mainGlobals (Str.ofString "sorted") = some none)
    (z_abs : PySem.W.nsIn K mainGlobals (Str.ofString "abs") = some none)
    (z_list : PySem.W.nsIn K mainGlobals (Str.ofString "list") = some none)
    (z_tuple : PySem.W.nsIn K mainGlobals (Str.ofString "tuple") = some none)
    (z_int : PySem.W.nsIn K mainGlobals (Str.ofString "int") = some none)
    (z_str : PySem.W.nsIn K mainGlobals (Str.ofString "str") = some none)
    (z_bool : PySem.W.nsIn K mainGlobals (Str.ofString "bool") = some none)
    (z_dict : PySem.W.nsIn K mainGlobals (Str.ofString "dict") = some none)
    (z_isinstance : PySem.W.nsIn K mainGlobals (Str.ofString "isinstance") = some none)
    (z_enumerate : PySem.W.nsIn K mainGlobals (Str.ofString "enumerate") = some none)
    (z_zip : PySem.W.nsIn K mainGlobals (Str.ofString "zip") = some none)
    (z_range : PySem.W.nsIn K mainGlobals (Str.ofString "range") = some none)
    (z_ValueError : PySem.W.nsIn K mainGlobals (Str.ofString "ValueError") = some none)
    (g_LETTERS : PySem.W.nsIn K mainGlobals (Str.ofString "LETTERS") = some (some (.str (sOf [97, 98, 99, 100, 101, 102, 103, 104, 105, 106, 107, 108, 109, 110, 111, 112, 113, 114, 115, 116, 117, 118, 119, 120, 121, 122]) t_LETTERS)))
    (g_FIGURES : PySem.W.nsIn K mainGlobals (Str.ofString "FIGURES") = some (some (.str (sOf [48, 49, 50, 51, 52, 53, 54, 55, 56, 57]) t_FIGURES)))
    (g_MOST_SIGNS : PySem.W.nsIn K mainGlobals (Str.ofString "MOST_SIGNS") = some (some (.int 12 t_MOST_SIGNS)))
    (g_MOST_GRAVES : PySem.W.nsIn K mainGlobals (Str.ofString "MOST_GRAVES") = some (some (.int 8 t_MOST_GRAVES)))
    (g_MOST_KINDS : PySem.W.nsIn K mainGlobals (Str.ofString "MOST_KINDS") = some (some (.int 10 t_MOST_KINDS)))
    (g_WRONG_GRAVES : PySem.W.nsIn K mainGlobals (Str.ofString "WRONG_GRAVES") = some (some (.int (-1) t_WRONG_GRAVES)))
    (g_WRONG_LIST : PySem.W.nsIn K mainGlobals (Str.ofString "WRONG_LIST") = some (some (.int (-2) t_WRONG_LIST))) :
    ∃ fd : FuncData, (∀ (s : PySem.Shared) (v : Value), BindsTo s fd ⟨[v], []⟩ [(Str.ofString "script", v)]) ∧ ∀ base : Heap, K.In base → base.Ns mainGlobals mg → L2.FnOk l.prog w K mg base (L2.CX l.prog w) 25 fa fd [Str.ofString "script"] (spL K 63) := by
  have e := hfa.symm.trans (PySem.W.mg_of X G g_law)
  cases e
  let c : Cfg := cfg K (fun k => match k with | 7 => C_DigError | 1 => C_BadDig | 4 => C_BadOrder | 10 => C_Unknown | 5 => C_Dig | _ => 0)
  have F__wall := L2.fun_mk (st := s__wall) l__wall c__wall k__wall
  have b__wall := F__wall.binds (ps := [(Str.ofString "k")]) fun _ _ _ _ _ _ us hl => match us, hl with | [_], _ => rfl
  have D__wall : FnD c tb pg 265 a__wall _ _ := ⟨_, _, s__wall, n__wall, f__wall, F__wall, ⟨rfl, rfl, rfl, by decide +kernel, rfl, by decide +kernel, by decide +kernel⟩, rfl, rfl, rfl, m__wall, b__wall⟩
  have F_is_whole := L2.fun_mk (st := s__law_is_integer) l_is_whole c_is_whole k_is_whole
  have b_is_whole := F_is_whole.binds (ps := [(Str.ofString "value")]) fun _ _ _ _ _ _ us hl => match us, hl with | [_], _ => rfl
  have D_is_whole : FnD c tb pg 137 a_is_whole _ _ := ⟨_, _, s__law_is_integer, n__law_is_integer, f__law_is_integer, F_is_whole, ⟨rfl, rfl, rfl, by decide +kernel, rfl, by decide +kernel, by decide +kernel⟩, rfl, rfl, rfl, m__law_is_integer, b_is_whole⟩
  have F_is_name := L2.fun_mk (st := s_is_name) l_is_name c_is_name k_is_name
  have b_is_name := F_is_name.binds (ps := [(Str.ofString "value")]) fun _ _ _ _ _ _ us hl => match us, hl with | [_], _ => rfl
  have D_is_name : FnD c tb pg 557 a_is_name _ _ := ⟨_, _, s_is_name, n_is_name, f_is_name, F_is_name, ⟨rfl, rfl, rfl, by decide +kernel, rfl, by decide +kernel, by decide +kernel⟩, rfl, rfl, rfl, m_is_name, b_is_name⟩
  have F_is_pair := L2.fun_mk (st := s_is_pair) l_is_pair c_is_pair k_is_pair
  have b_is_pair := F_is_pair.binds (ps := [(Str.ofString "value")]) fun _ _ _ _ _ _ us hl => match us, hl with | [_], _ => rfl
  have D_is_pair : FnD c tb pg 562 a_is_pair _ _ := ⟨_, _, s_is_pair, n_is_pair, f_is_pair, F_is_pair, ⟨rfl, rfl, rfl, by decide +kernel, rfl, by decide +kernel, by decide +kernel⟩, rfl, rfl, rfl, m_is_pair, b_is_pair⟩
  have F_is_ascending := L2.fun_mk (st := s_is_ascending) l_is_ascending c_is_ascending k_is_ascending
  have b_is_ascending := F_is_ascending.binds (ps := [(Str.ofString "listed")]) fun _ _ _ _ _ _ us hl => match us, hl with | [_], _ => rfl
  have D_is_ascending : FnD c tb pg 524 a_is_ascending _ _ := ⟨_, _, s_is_ascending, n_is_ascending, f_is_ascending, F_is_ascending, ⟨rfl, rfl, rfl, by decide +kernel, rfl, by decide +kernel, by decide +kernel⟩, rfl, rfl, rfl, m_is_ascending, b_is_ascending⟩
  have F_are_names := L2.fun_mk (st := s_are_names) l_are_names c_are_names k_are_names
  have b_are_names := F_are_names.binds (ps := [(Str.ofString "value")]) fun _ _ _ _ _ _ us hl => match us, hl with | [_], _ => rfl
  have D_are_names : FnD c tb pg 303 a_are_names _ _ := ⟨_, _, s_are_names, n_are_names, f_are_names, F_are_names, ⟨rfl, rfl, rfl, by decide +kernel, rfl, by decide +kernel, by decide +kernel⟩, rfl, rfl, rfl, m_are_names, b_are_names⟩
  have F_are_graves := L2.fun_mk (st := s_are_graves) l_are_graves c_are_graves k_are_graves
  have b_are_graves := F_are_graves.binds (ps := [(Str.ofString "value")]) fun _ _ _ _ _ _ us hl => match us, hl with | [_], _ => rfl
  have D_are_graves : FnD c tb pg 296 a_are_graves _ _ := ⟨_, _, s_are_graves, n_are_graves, f_are_graves, F_are_graves, ⟨rfl, rfl, rfl, by decide +kernel, rfl, by decide +kernel, by decide +kernel⟩, rfl, rfl, rfl, m_are_graves, b_are_graves⟩
  have F_are_some_of := L2.fun_mk (st := s_are_some_of) l_are_some_of c_are_some_of k_are_some_of
  have b_are_some_of := F_are_some_of.binds (ps := [(Str.ofString "value"), (Str.ofString "graves")]) fun _ _ _ _ _ _ us hl => match us, hl with | [_, _], _ => rfl
  have D_are_some_of : FnD c tb pg 308 a_are_some_of _ _ := ⟨_, _, s_are_some_of, n_are_some_of, f_are_some_of, F_are_some_of, ⟨rfl, rfl, rfl, by decide +kernel, rfl, by decide +kernel, by decide +kernel⟩, rfl, rfl, rfl, m_are_some_of, b_are_some_of⟩
  have F_is_right_kind := L2.fun_mk (st := s_is_right_kind) l_is_right_kind c_is_right_kind k_is_right_kind
  have b_is_right_kind := F_is_right_kind.binds (ps := [(Str.ofString "value"), (Str.ofString "graves")]) fun _ _ _ _ _ _ us hl => match us, hl with | [_, _], _ => rfl
  have D_is_right_kind : FnD c tb pg 567 a_is_right_kind _ _ := ⟨_, _, s_is_right_kind, n_is_right_kind, f_is_right_kind, F_is_right_kind, ⟨rfl, rfl, rfl, by decide +kernel, rfl, by decide +kernel, by decide +kernel⟩, rfl, rfl, rfl, m_is_right_kind, b_is_right_kind⟩
  have F_first_wrong := L2.fun_mk (st := s_first_wrong) l_first_wrong c_first_wrong k_first_wrong
  have b_first_wrong := F_first_wrong.binds (ps := [(Str.ofString "graves"), (Str.ofString "kinds")]) fun _ _ _ _ _ _ us hl => match us, hl with | [_, _], _ => rfl
  have D_first_wrong : FnD c tb pg 475 a_first_wrong _ _ := ⟨_, _, s_first_wrong, n_first_wrong, f_first_wrong, F_first_wrong, ⟨rfl, rfl, rfl, by decide +kernel, rfl, by decide +kernel, by decide +kernel⟩, rfl, rfl, rfl, m_first_wrong, b_first_wrong⟩
  have F_check_dig := L2.fun_mk (st := s_check_dig) l_check_dig c_check_dig k_check_dig
  have b_check_dig := F_check_dig.binds (ps := [(Str.ofString "graves"), (Str.ofString "kinds")]) fun _ _ _ _ _ _ us hl => match us, hl with | [_, _], _ => rfl
  have D_check_dig : FnD c tb pg 366 a_check_dig _ _ := ⟨_, _, s_check_dig, n_check_dig, f_check_dig, F_check_dig, ⟨rfl, rfl, rfl, by decide +kernel, rfl, by decide +kernel, by decide +kernel⟩, rfl, rfl, rfl, m_check_dig, b_check_dig⟩
  have F__law_numbers := L2.fun_mk (st := s__law_numbers) l__law_numbers c__law_numbers k__law_numbers
  have b__law_numbers := F__law_numbers.binds (ps := [(Str.ofString "script"), (Str.ofString "at"), (Str.ofString "many")]) fun _ _ _ _ _ _ us hl => match us, hl with | [_, _, _], _ => rfl
  have D__law_numbers : FnD c tb pg 176 a__law_numbers _ _ := ⟨_, _, s__law_numbers, n__law_numbers, f__law_numbers, F__law_numbers, ⟨rfl, rfl, rfl, by decide +kernel, rfl, by decide +kernel, by decide +kernel⟩, rfl, rfl, rfl, m__law_numbers, b__law_numbers⟩
  have F__law_names := L2.fun_mk (st := s__law_names) l__law_names c__law_names k__law_names
  have b__law_names := F__law_names.binds (ps := [(Str.ofString "script"), (Str.ofString "at"), (Str.ofString "count")]) fun _ _ _ _ _ _ us hl => match us, hl with | [_, _, _], _ => rfl
  have D__law_names : FnD c tb pg 170 a__law_names _ _ := ⟨_, _, s__law_names, n__law_names, f__law_names, F__law_names, ⟨rfl, rfl, rfl, by decide +kernel, rfl, by decide +kernel, by decide +kernel⟩, rfl, rfl, rfl, m__law_names, b__law_names⟩
  have F__law_hidden := L2.fun_mk (st := s__law_hidden_v1) l__law_hidden c__law_hidden k__law_hidden
  have b__law_hidden := F__law_hidden.binds (ps := [(Str.ofString "script"), (Str.ofString "at"), (Str.ofString "graves")]) fun _ _ _ _ _ _ us hl => match us, hl with | [_, _, _], _ => rfl
  have D__law_hidden : FnD c tb pg 125 a__law_hidden _ _ := ⟨_, _, s__law_hidden_v1, n__law_hidden_v1, f__law_hidden_v1, F__law_hidden, ⟨rfl, rfl, rfl, by decide +kernel, rfl, by decide +kernel, by decide +kernel⟩, rfl, rfl, rfl, m__law_hidden_v1, b__law_hidden⟩
  have F__law_dig := L2.fun_mk (st := s__law_dig) l__law_dig c__law_dig k__law_dig
  have b__law_dig := F__law_dig.binds (ps := [(Str.ofString "script"), (Str.ofString "at"), (Str.ofString "most"), (Str.ofString "many")]) fun _ _ _ _ _ _ us hl => match us, hl with | [_, _, _, _], _ => rfl
  have D__law_dig : FnD c tb pg 91 a__law_dig _ _ := ⟨_, _, s__law_dig, n__law_dig, f__law_dig, F__law_dig, ⟨rfl, rfl, rfl, by decide +kernel, rfl, by decide +kernel, by decide +kernel⟩, rfl, rfl, rfl, m__law_dig, b__law_dig⟩
  have F__law_refusal := L2.fun_mk (st := s__law_refusal_v6) l__law_refusal c__law_refusal k__law_refusal
  have b__law_refusal := F__law_refusal.binds (ps := [(Str.ofString "graves"), (Str.ofString "kinds")]) fun _ _ _ _ _ _ us hl => match us, hl with | [_, _], _ => rfl
  have D__law_refusal : FnD c tb pg 215 a__law_refusal _ _ := ⟨_, _, s__law_refusal_v6, n__law_refusal_v6, f__law_refusal_v6, F__law_refusal, ⟨rfl, rfl, rfl, by decide +kernel, rfl, by decide +kernel, by decide +kernel⟩, rfl, rfl, rfl, m__law_refusal_v6, b__law_refusal⟩
  have F__law_wrong_kinds := L2.fun_mk (st := s__law_wrong_kinds) l__law_wrong_kinds c__law_wrong_kinds k__law_wrong_kinds
  have b__law_wrong_kinds := F__law_wrong_kinds.binds (ps := [(Str.ofString "kinds"), (Str.ofString "at"), (Str.ofString "grave")]) fun _ _ _ _ _ _ us hl => match us, hl with | [_, _, _], _ => rfl
  have D__law_wrong_kinds : FnD c tb pg 263 a__law_wrong_kinds _ _ := ⟨_, _, s__law_wrong_kinds, n__law_wrong_kinds, f__law_wrong_kinds, F__law_wrong_kinds, ⟨rfl, rfl, rfl, by decide +kernel, rfl, by decide +kernel, by decide +kernel⟩, rfl, rfl, rfl, m__law_wrong_kinds, b__law_wrong_kinds⟩
  have F_law := L2.fun_mk (st := s_law_v69) l_law c_law k_law
  have b_law := F_law.binds (ps := [(Str.ofString "script")]) fun _ _ _ _ _ _ us hl => match us, hl with | [_], _ => rfl
  have D_law : FnD c tb pg 667 fa _ _ := ⟨_, _, s_law_v69, n_law_v69, f_law_v69, F_law, ⟨rfl, rfl, rfl, by decide +kernel, rfl, by decide +kernel, by decide +kernel⟩, rfl, rfl, rfl, m_law_v69, b_law⟩
  have F_BadDig____init__ := L2.fun_mk (st := s_X_BadDig____init__) l_BadDig____init__ c_BadDig____init__ k_BadDig____init__
  have b_BadDig____init__ := F_BadDig____init__.binds (ps := [(Str.ofString "self"), (Str.ofString "index")]) fun _ _ _ _ _ _ us hl => match us, hl with | [_, _], _ => rfl
  have F_BadOrder____init__ := L2.fun_mk (st := s_X_BadOrder____init__) l_BadOrder____init__ c_BadOrder____init__ k_BadOrder____init__
  have b_BadOrder____init__ := F_BadOrder____init__.binds (ps := [(Str.ofString "self"), (Str.ofString "index")]) fun _ _ _ _ _ _ us hl => match us, hl with | [_, _], _ => rfl
  have F_Unknown____init__ := L2.fun_mk (st := s_X_Unknown____init__) l_Unknown____init__ c_Unknown____init__ k_Unknown____init__
  have b_Unknown____init__ := F_Unknown____init__.binds (ps := [(Str.ofString "self"), (Str.ofString "name")]) fun _ _ _ _ _ _ us hl => match us, hl with | [_, _], _ => rfl
  have F_Dig____init__ := L2.fun_mk (st := s_Dig____init__) l_Dig____init__ c_Dig____init__ k_Dig____init__
  have b_Dig____init__ := F_Dig____init__.binds (ps := [(Str.ofString "self"), (Str.ofString "graves"), (Str.ofString "kinds")]) fun _ _ _ _ _ _ us hl => match us, hl with | [_, _, _], _ => rfl
  have D_Dig____init__ : FnD c tb pg 27 a_Dig____init__ _ _ := ⟨_, _, s_Dig____init__, n_Dig____init__, f_Dig____init__, F_Dig____init__, ⟨rfl, rfl, rfl, by decide +kernel, rfl, by decide +kernel, by decide +kernel⟩, rfl, rfl, rfl, m_Dig____init__, b_Dig____init__⟩
  have F_Dig__kinds_with := L2.fun_mk (st := s_Dig__kinds_with) l_Dig__kinds_with c_Dig__kinds_with k_Dig__kinds_with
  have b_Dig__kinds_with := F_Dig__kinds_with.binds (ps := [(Str.ofString "self"), (Str.ofString "grave")]) fun _ _ _ _ _ _ us hl => match us, hl with | [_, _], _ => rfl
  have D_Dig__kinds_with : FnD c tb pg 40 a_Dig__kinds_with _ _ := ⟨_, _, s_Dig__kinds_with, n_Dig__kinds_with, f_Dig__kinds_with, F_Dig__kinds_with, ⟨rfl, rfl, rfl, by decide +kernel, rfl, by decide +kernel, by decide +kernel⟩, rfl, rfl, rfl, m_Dig__kinds_with, b_Dig__kinds_with⟩
  have F_Dig__graves := L2.fun_mk (st := s_Dig__graves) l_Dig__graves c_Dig__graves k_Dig__graves
  have b_Dig__graves := F_Dig__graves.binds (ps := [(Str.ofString "self")]) fun _ _ _ _ _ _ us hl => match us, hl with | [_], _ => rfl
  have D_Dig__graves : FnD c tb pg 32 a_Dig__graves _ _ := ⟨_, _, s_Dig__graves, n_Dig__graves, f_Dig__graves, F_Dig__graves, ⟨rfl, rfl, rfl, by decide +kernel, rfl, by decide +kernel, by decide +kernel⟩, rfl, rfl, rfl, m_Dig__graves, b_Dig__graves⟩
  have F_Dig__kinds := L2.fun_mk (st := s_Dig__kinds) l_Dig__kinds c_Dig__kinds k_Dig__kinds
  have b_Dig__kinds := F_Dig__kinds.binds (ps := [(Str.ofString "self")]) fun _ _ _ _ _ _ us hl => match us, hl with | [_], _ => rfl
  have D_Dig__kinds : FnD c tb pg 39 a_Dig__kinds _ _ := ⟨_, _, s_Dig__kinds, n_Dig__kinds, f_Dig__kinds, F_Dig__kinds, ⟨rfl, rfl, rfl, by decide +kernel, rfl, by decide +kernel, by decide +kernel⟩, rfl, rfl, rfl, m_Dig__kinds, b_Dig__kinds⟩
  have F_Dig__names := L2.fun_mk (st := s_Dig__names) l_Dig__names c_Dig__names k_Dig__names
  have b_Dig__names := F_Dig__names.binds (ps := [(Str.ofString "self")]) fun _ _ _ _ _ _ us hl => match us, hl with | [_], _ => rfl
  have D_Dig__names : FnD c tb pg 42 a_Dig__names _ _ := ⟨_, _, s_Dig__names, n_Dig__names, f_Dig__names, F_Dig__names, ⟨rfl, rfl, rfl, by decide +kernel, rfl, by decide +kernel, by decide +kernel⟩, rfl, rfl, rfl, m_Dig__names, b_Dig__names⟩
  have F_Dig__is_grave := L2.fun_mk (st := s_Dig__is_grave_v1) l_Dig__is_grave c_Dig__is_grave k_Dig__is_grave
  have b_Dig__is_grave := F_Dig__is_grave.binds (ps := [(Str.ofString "self"), (Str.ofString "value")]) fun _ _ _ _ _ _ us hl => match us, hl with | [_, _], _ => rfl
  have D_Dig__is_grave : FnD c tb pg 37 a_Dig__is_grave _ _ := ⟨_, _, s_Dig__is_grave_v1, n_Dig__is_grave_v1, f_Dig__is_grave_v1, F_Dig__is_grave, ⟨rfl, rfl, rfl, by decide +kernel, rfl, by decide +kernel, by decide +kernel⟩, rfl, rfl, rfl, m_Dig__is_grave_v1, b_Dig__is_grave⟩
  have F_Dig__is_kind := L2.fun_mk (st := s_Dig__is_kind) l_Dig__is_kind c_Dig__is_kind k_Dig__is_kind
  have b_Dig__is_kind := F_Dig__is_kind.binds (ps := [(Str.ofString "self"), (Str.ofString "value")]) fun _ _ _ _ _ _ us hl => match us, hl with | [_, _], _ => rfl
  have D_Dig__is_kind : FnD c tb pg 38 a_Dig__is_kind _ _ := ⟨_, _, s_Dig__is_kind, n_Dig__is_kind, f_Dig__is_kind, F_Dig__is_kind, ⟨rfl, rfl, rfl, by decide +kernel, rfl, by decide +kernel, by decide +kernel⟩, rfl, rfl, rfl, m_Dig__is_kind, b_Dig__is_kind⟩
  have F_Dig__members := L2.fun_mk (st := s_Dig__members) l_Dig__members c_Dig__members k_Dig__members
  have b_Dig__members := F_Dig__members.binds (ps := [(Str.ofString "self"), (Str.ofString "name")]) fun _ _ _ _ _ _ us hl => match us, hl with | [_, _], _ => rfl
  have D_Dig__members : FnD c tb pg 41 a_Dig__members _ _ := ⟨_, _, s_Dig__members, n_Dig__members, f_Dig__members, F_Dig__members, ⟨rfl, rfl, rfl, by decide +kernel, rfl, by decide +kernel, by decide +kernel⟩, rfl, rfl, rfl, m_Dig__members, b_Dig__members⟩
  have F_Dig__has := L2.fun_mk (st := s_Dig__has_v2) l_Dig__has c_Dig__has k_Dig__has
  have b_Dig__has := F_Dig__has.binds (ps := [(Str.ofString "self"), (Str.ofString "grave")]) fun _ _ _ _ _ _ us hl => match us, hl with | [_, _], _ => rfl
  have D_Dig__has : FnD c tb pg 35 a_Dig__has _ _ := ⟨_, _, s_Dig__has_v2, n_Dig__has_v2, f_Dig__has_v2, F_Dig__has, ⟨rfl, rfl, rfl, by decide +kernel, rfl, by decide +kernel, by decide +kernel⟩, rfl, rfl, rfl, m_Dig__has_v2, b_Dig__has⟩
  have F_Dig__both := L2.fun_mk (st := s_Dig__both_v3) l_Dig__both c_Dig__both k_Dig__both
  have b_Dig__both := F_Dig__both.binds (ps := [(Str.ofString "self"), (Str.ofString "name"), (Str.ofString "other")]) fun _ _ _ _ _ _ us hl => match us, hl with | [_, _, _], _ => rfl
  have D_Dig__both : FnD c tb pg 31 a_Dig__both _ _ := ⟨_, _, s_Dig__both_v3, n_Dig__both_v3, f_Dig__both_v3, F_Dig__both, ⟨rfl, rfl, rfl, by decide +kernel, rfl, by decide +kernel, by decide +kernel⟩, rfl, rfl, rfl, m_Dig__both_v3, b_Dig__both⟩
  have cl_Dig : L2.Cls K C_Dig := ⟨pg_Dig, hd_Dig, po_Dig, sa_Dig⟩
  have H : Hdf c tb pg mg := by
    refine ⟨?fns, ?mts, ?cls, ?fld, ?con, ?nob, ?exs, ?xcs, rfl, ?xfl, ?rse⟩
    case fns => exact ⟨⟨_, _, _, PySem.W.mg_of X G g__wall, D__wall⟩, ⟨_, _, _, PySem.W.mg_of X G g_is_whole, D_is_whole⟩, ⟨_, _, _, PySem.W.mg_of X G g_is_name, D_is_name⟩, ⟨_, _, _, PySem.W.mg_of X G g_is_pair, D_is_pair⟩, ⟨_, _, _, PySem.W.mg_of X G g_is_ascending, D_is_ascending⟩, ⟨_, _, _, PySem.W.mg_of X G g_are_names, D_are_names⟩, ⟨_, _, _, PySem.W.mg_of X G g_are_graves, D_are_graves⟩, ⟨_, _, _, PySem.W.mg_of X G g_are_some_of, D_are_some_of⟩, ⟨_, _, _, PySem.W.mg_of X G g_is_right_kind, D_is_right_kind⟩, ⟨_, _, _, PySem.W.mg_of X G g_first_wrong, D_first_wrong⟩, ⟨_, _, _, PySem.W.mg_of X G g_check_dig, D_check_dig⟩, ⟨_, _, _, PySem.W.mg_of X G g__law_numbers, D__law_numbers⟩, ⟨_, _, _, PySem.W.mg_of X G g__law_names, D__law_names⟩, ⟨_, _, _, PySem.W.mg_of X G g__law_hidden, D__law_hidden⟩, ⟨_, _, _, PySem.W.mg_of X G g__law_dig, D__law_dig⟩, ⟨_, _, _, PySem.W.mg_of X G g__law_refusal, D__law_refusal⟩, ⟨_, _, _, PySem.W.mg_of X G g__law_wrong_kinds, D__law_wrong_kinds⟩, ⟨_, _, _, PySem.W.mg_of X G g_law, D_law⟩, trivial⟩
    case mts => exact ⟨⟨⟨5, 40, rfl⟩, fun k f h => by
        obtain ⟨rfl, rfl⟩ := mi_21 k f h
        exact ⟨show (Str.ofString "kinds_with") ∉ ([(Str.ofString "_graves"), (Str.ofString "_members"), (Str.ofString "_had")] : List Str) by decide +kernel, a_Dig__kinds_with, _, _, cl_Dig, ⟨fi_Dig__kinds_with, i_Dig__kinds_with, k_Dig__kinds_with⟩, D_Dig__kinds_with⟩⟩, ⟨⟨5, 32, rfl⟩, fun k f h => by
        obtain ⟨rfl, rfl⟩ := mi_11 k f h
        exact ⟨show (Str.ofString "graves") ∉ ([(Str.ofString "_graves"), (Str.ofString "_members"), (Str.ofString "_had")] : List Str) by decide +kernel, a_Dig__graves, _, _, cl_Dig, ⟨fi_Dig__graves, i_Dig__graves, k_Dig__graves⟩, D_Dig__graves⟩⟩, ⟨⟨5, 39, rfl⟩, fun k f h => by
        obtain ⟨rfl, rfl⟩ := mi_20 k f h
        exact ⟨show (Str.ofString "kinds") ∉ ([(Str.ofString "_graves"), (Str.ofString "_members"), (Str.ofString "_had")] : List Str) by decide +kernel, a_Dig__kinds, _, _, cl_Dig, ⟨fi_Dig__kinds, i_Dig__kinds, k_Dig__kinds⟩, D_Dig__kinds⟩⟩, ⟨⟨5, 42, rfl⟩, fun k f h => by
        obtain ⟨rfl, rfl⟩ := mi_23 k f h
        exact ⟨show (Str.ofString "names") ∉ ([(Str.ofString "_graves"), (Str.ofString "_members"), (Str.ofString "_had")] : List Str) by decide +kernel, a_Dig__names, _, _, cl_Dig, ⟨fi_Dig__names, i_Dig__names, k_Dig__names⟩, D_Dig__names⟩⟩, ⟨⟨5, 37, rfl⟩, fun k f h => by
        obtain ⟨rfl, rfl⟩ := mi_14 k f h
        exact ⟨show (Str.ofString "is_grave") ∉ ([(Str.ofString "_graves"), (Str.ofString "_members"), (Str.ofString "_had")] : List Str) by decide +kernel, a_Dig__is_grave, _, _, cl_Dig, ⟨fi_Dig__is_grave, i_Dig__is_grave, k_Dig__is_grave⟩, D_Dig__is_grave⟩⟩, ⟨⟨5, 38, rfl⟩, fun k f h => by
        obtain ⟨rfl, rfl⟩ := mi_16 k f h
        exact ⟨show (Str.ofString "is_kind") ∉ ([(Str.ofString "_graves"), (Str.ofString "_members"), (Str.ofString "_had")] : List Str) by decide +kernel, a_Dig__is_kind, _, _, cl_Dig, ⟨fi_Dig__is_kind, i_Dig__is_kind, k_Dig__is_kind⟩, D_Dig__is_kind⟩⟩, ⟨⟨5, 41, rfl⟩, fun k f h => by
        obtain ⟨rfl, rfl⟩ := mi_22 k f h
        exact ⟨show (Str.ofString "members") ∉ ([(Str.ofString "_graves"), (Str.ofString "_members"), (Str.ofString "_had")] : List Str) by decide +kernel, a_Dig__members, _, _, cl_Dig, ⟨fi_Dig__members, i_Dig__members, k_Dig__members⟩, D_Dig__members⟩⟩, ⟨⟨5, 35, rfl⟩, fun k f h => by
        obtain ⟨rfl, rfl⟩ := mi_12 k f h
        exact ⟨show (Str.ofString "has") ∉ ([(Str.ofString "_graves"), (Str.ofString "_members"), (Str.ofString "_had")] : List Str) by decide +kernel, a_Dig__has, _, _, cl_Dig, ⟨fi_Dig__has, i_Dig__has, k_Dig__has⟩, D_Dig__has⟩⟩, ⟨⟨5, 31, rfl⟩, fun k f h => by
        obtain ⟨rfl, rfl⟩ := mi_3 k f h
        exact ⟨show (Str.ofString "both") ∉ ([(Str.ofString "_graves"), (Str.ofString "_members"), (Str.ofString "_had")] : List Str) by decide +kernel, a_Dig__both, _, _, cl_Dig, ⟨fi_Dig__both, i_Dig__both, k_Dig__both⟩, D_Dig__both⟩⟩, trivial⟩
    case cls => exact ⟨⟨PySem.W.mg_of X G g_Dig, 27, a_Dig____init__, _, _, rfl, ⟨mk_Dig, fi_Dig____init__, i_Dig____init__, kp_Dig⟩, D_Dig____init__⟩, trivial⟩
    case fld =>
      intro k j f hf
      unfold tb at hf
      dsimp only at hf
      split at hf
      · refine ⟨hf, cl_Dig, ?_, show List.Nodup ([(Str.ofString "_graves"), (Str.ofString "_members"), (Str.ofString "_had")] : List Str) by decide +kernel, show ([(Str.ofString "_graves"), (Str.ofString "_members"), (Str.ofString "_had")] : List Str).length < 1000 by decide +kernel⟩
        have hm := List.mem_of_getElem? hf
        simp only [List.mem_cons, List.not_mem_nil, or_false] at hm
        rcases hm with rfl | rfl | rfl
        · exact na_Dig__graves
        · exact na_Dig__members
        · exact na_Dig__had
      · simp at hf
    case con => exact ⟨⟨_, .str (sOf [97, 98, 99, 100, 101, 102, 103, 104, 105, 106, 107, 108, 109, 110, 111, 112, 113, 114, 115, 116, 117, 118, 119, 120, 121, 122]), PySem.W.mg_of X G g_LETTERS, ⟨_, rfl⟩, fun w => .str (show _ ≤ sizeLine by decide)⟩, ⟨_, .str (sOf [48, 49, 50, 51, 52, 53, 54, 55, 56, 57]), PySem.W.mg_of X G g_FIGURES, ⟨_, rfl⟩, fun w => .str (show _ ≤ sizeLine by decide)⟩, ⟨_, .int 12, PySem.W.mg_of X G g_MOST_SIGNS, ⟨_, rfl⟩, fun w => .int _⟩, ⟨_, .int 8, PySem.W.mg_of X G g_MOST_GRAVES, ⟨_, rfl⟩, fun w => .int _⟩, ⟨_, .int 10, PySem.W.mg_of X G g_MOST_KINDS, ⟨_, rfl⟩, fun w => .int _⟩, ⟨_, .int (-1), PySem.W.mg_of X G g_WRONG_GRAVES, ⟨_, rfl⟩, fun w => .int _⟩, ⟨_, .int (-2), PySem.W.mg_of X G g_WRONG_LIST, ⟨_, rfl⟩, fun w => .int _⟩, trivial⟩
    case nob => exact ⟨PySem.W.mg_none_of X G z_len, PySem.W.mg_none_of X G z_all, PySem.W.mg_none_of X G z_any, PySem.W.mg_none_of X G z_sum, PySem.W.mg_none_of X G z_min, PySem.W.mg_none_of X G z_max, PySem.W.mg_none_of X G z_sorted, PySem.W.mg_none_of X G z_abs, PySem.W.mg_none_of X G z_list, PySem.W.mg_none_of X G z_tuple, PySem.W.mg_none_of X G z_int, PySem.W.mg_none_of X G z_str, PySem.W.mg_none_of X G z_bool, PySem.W.mg_none_of X G z_dict, PySem.W.mg_none_of X G z_isinstance, PySem.W.mg_none_of X G z_enumerate, PySem.W.mg_none_of X G z_zip, PySem.W.mg_none_of X G z_range, PySem.W.mg_none_of X G z_ValueError, trivial⟩
    case xcs => exact ⟨PySem.W.mg_of X G g_DigError, PySem.W.mg_of X G g_BadDig, PySem.W.mg_of X G g_BadOrder, PySem.W.mg_of X G g_Unknown, trivial⟩
    case xfl =>
      intro k hk
      replace hk : k ∈ ([1, 4, 10] : List Nat) := hk
      simp only [List.mem_cons, List.not_mem_nil, or_false] at hk
      rcases hk with rfl | rfl | rfl
      · rfl
      · rfl
      · rfl
    case rse =>
      intro k hk
      replace hk : k ∈ ([1, 4, 10] : List Nat) := hk
      simp only [List.mem_cons, List.not_mem_nil, or_false] at hk
      rcases hk with rfl | rfl | rfl
      · exact ⟨(Str.ofString "index"), a_BadDig____init__, _, _, _, _, s_X_BadDig____init__, [(Str.ofString "self"), (Str.ofString "index")], rfl, rfl, ⟨⟨_, _, _, _, _, _, _, _, _, _, _, _, _, _, _, xL_BadDig, rv_BadDig⟩, sa_BadDig, eC_BadDig, tC_BadDig, kC_BadDig⟩, fi_BadDig____init__, t_BadDig____init__, b_BadDig____init__, F_BadDig____init__, ⟨rfl, rfl, rfl, by decide +kernel, rfl, by decide +kernel, by decide +kernel⟩, rfl, rfl, m_X_BadDig____init__⟩
      · exact ⟨(Str.ofString "index"), a_BadOrder____init__, _, _, _, _, s_X_BadOrder____init__, [(Str.ofString "self"), (Str.ofString "index")], rfl, rfl, ⟨⟨_, _, _, _, _, _, _, _, _, _, _, _, _, _, _, xL_BadOrder, rv_BadOrder⟩, sa_BadOrder, eC_BadOrder, tC_BadOrder, kC_BadOrder⟩, fi_BadOrder____init__, t_BadOrder____init__, b_BadOrder____init__, F_BadOrder____init__, ⟨rfl, rfl, rfl, by decide +kernel, rfl, by decide +kernel, by decide +kernel⟩, rfl, rfl, m_X_BadOrder____init__⟩
      · exact ⟨(Str.ofString "name"), a_Unknown____init__, _, _, _, _, s_X_Unknown____init__, [(Str.ofString "self"), (Str.ofString "name")], rfl, rfl, ⟨⟨_, _, _, _, _, _, _, _, _, _, _, _, _, _, _, xL_Unknown, rv_Unknown⟩, sa_Unknown, eC_Unknown, tC_Unknown, kC_Unknown⟩, fi_Unknown____init__, t_Unknown____init__, b_Unknown____init__, F_Unknown____init__, ⟨rfl, rfl, rfl, by decide +kernel, rfl, by decide +kernel, by decide +kernel⟩, rfl, rfl, m_X_Unknown____init__⟩
    case exs =>
      refine ⟨?xf, ?ec, ?no, ?nd, ?ne, ?sub, ?subV⟩
      case xf =>
        intro k hk
        replace hk : k ∈ ([1, 4, 10] : List Nat) := hk
        simp only [List.mem_cons, List.not_mem_nil, or_false] at hk
        rcases hk with rfl | rfl | rfl
        · exact ⟨ga_BadDig, gg_BadDig, eC_BadDig, hd_BadDig⟩
        · exact ⟨ga_BadOrder, gg_BadOrder, eC_BadOrder, hd_BadOrder⟩
        · exact ⟨ga_Unknown, gg_Unknown, eC_Unknown, hd_Unknown⟩
      case ec =>
        intro k hk
        replace hk : k ∈ ([1, 4, 10] : List Nat) := hk
        simp only [List.mem_cons, List.not_mem_nil, or_false] at hk
        rcases hk with rfl | rfl | rfl
        · exact ⟨ga_BadDig, gg_BadDig, eC_BadDig, hd_BadDig, cc_BadDig, sp, tk, mr_BadDig⟩
        · exact ⟨ga_BadOrder, gg_BadOrder, eC_BadOrder, hd_BadOrder, cc_BadOrder, sp, tk, mr_BadOrder⟩
        · exact ⟨ga_Unknown, gg_Unknown, eC_Unknown, hd_Unknown, cc_Unknown, sp, tk, mr_Unknown⟩
      case no =>
        intro k hk
        replace hk : k ∈ ([1, 4, 10] : List Nat) := hk
        simp only [List.mem_cons, List.not_mem_nil, or_false] at hk
        rcases hk with rfl | rfl | rfl
        · intro f hf; replace hf : f ∈ [(Str.ofString "index")] := hf; rw [List.mem_singleton] at hf; subst hf; exact no_BadDig
        · intro f hf; replace hf : f ∈ [(Str.ofString "index")] := hf; rw [List.mem_singleton] at hf; subst hf; exact no_BadOrder
        · intro f hf; replace hf : f ∈ [(Str.ofString "name")] := hf; rw [List.mem_singleton] at hf; subst hf; exact no_Unknown
      case nd =>
        intro k hk
        replace hk : k ∈ ([1, 4, 10] : List Nat) := hk
        simp only [List.mem_cons, List.not_mem_nil, or_false] at hk
        rcases hk with rfl | rfl | rfl
        · exact List.nodup_cons.mpr ⟨List.not_mem_nil, List.nodup_nil⟩
        · exact List.nodup_cons.mpr ⟨List.not_mem_nil, List.nodup_nil⟩
        · exact List.nodup_cons.mpr ⟨List.not_mem_nil, List.nodup_nil⟩
      case ne =>
        intro k hk
        replace hk : k ∈ ([1, 4, 10] : List Nat) := hk
        simp only [List.mem_cons, List.not_mem_nil, or_false] at hk
        rcases hk with rfl | rfl | rfl
        · exact List.cons_ne_nil _ _
        · exact List.cons_ne_nil _ _
        · exact List.cons_ne_nil _ _
      case sub =>
        intro k hk
        replace hk : k ∈ ([1, 4, 10] : List Nat) := hk
        simp only [List.mem_cons, List.not_mem_nil, or_false] at hk
        rcases hk with rfl | rfl | rfl
        · intro d hd; replace hd : d ∈ ([7, 1, 4, 10] : List Nat) := hd; simp only [List.mem_cons, List.not_mem_nil, or_false] at hd; rcases hd with rfl | rfl | rfl | rfl
          · exact ⟨exm_of eC_DigError ic_DigError tC_DigError su_BadDig_DigError, kit1_of ic_DigError tC_DigError su_BadDig_DigError su_DigError_DigError⟩
          · exact ⟨exm_of eC_BadDig ic_BadDig tC_BadDig su_BadDig_BadDig, kit1_of ic_BadDig tC_BadDig su_BadDig_BadDig su_BadDig_BadDig⟩
          · exact ⟨exm_of eC_BadOrder ic_BadOrder tC_BadOrder su_BadDig_BadOrder, kit1_of ic_BadOrder tC_BadOrder su_BadDig_BadOrder su_BadOrder_BadOrder⟩
          · exact ⟨exm_of eC_Unknown ic_Unknown tC_Unknown su_BadDig_Unknown, kit1_of ic_Unknown tC_Unknown su_BadDig_Unknown su_Unknown_Unknown⟩
        · intro d hd; replace hd : d ∈ ([7, 1, 4, 10] : List Nat) := hd; simp only [List.mem_cons, List.not_mem_nil, or_false] at hd; rcases hd with rfl | rfl | rfl | rfl
          · exact ⟨exm_of eC_DigError ic_DigError tC_DigError su_BadOrder_DigError, kit1_of ic_DigError tC_DigError su_BadOrder_DigError su_DigError_DigError⟩
          · exact ⟨exm_of eC_BadDig ic_BadDig tC_BadDig su_BadOrder_BadDig, kit1_of ic_BadDig tC_BadDig su_BadOrder_BadDig su_BadDig_BadDig⟩
          · exact ⟨exm_of eC_BadOrder ic_BadOrder tC_BadOrder su_BadOrder_BadOrder, kit1_of ic_BadOrder tC_BadOrder su_BadOrder_BadOrder su_BadOrder_BadOrder⟩
          · exact ⟨exm_of eC_Unknown ic_Unknown tC_Unknown su_BadOrder_Unknown, kit1_of ic_Unknown tC_Unknown su_BadOrder_Unknown su_Unknown_Unknown⟩
        · intro d hd; replace hd : d ∈ ([7, 1, 4, 10] : List Nat) := hd; simp only [List.mem_cons, List.not_mem_nil, or_false] at hd; rcases hd with rfl | rfl | rfl | rfl
          · exact ⟨exm_of eC_DigError ic_DigError tC_DigError su_Unknown_DigError, kit1_of ic_DigError tC_DigError su_Unknown_DigError su_DigError_DigError⟩
          · exact ⟨exm_of eC_BadDig ic_BadDig tC_BadDig su_Unknown_BadDig, kit1_of ic_BadDig tC_BadDig su_Unknown_BadDig su_BadDig_BadDig⟩
          · exact ⟨exm_of eC_BadOrder ic_BadOrder tC_BadOrder su_Unknown_BadOrder, kit1_of ic_BadOrder tC_BadOrder su_Unknown_BadOrder su_BadOrder_BadOrder⟩
          · exact ⟨exm_of eC_Unknown ic_Unknown tC_Unknown su_Unknown_Unknown, kit1_of ic_Unknown tC_Unknown su_Unknown_Unknown su_Unknown_Unknown⟩
      case subV =>
        intro k hk
        replace hk : k ∈ ([1, 4, 10] : List Nat) := hk
        simp only [List.mem_cons, List.not_mem_nil, or_false] at hk
        rcases hk with rfl | rfl | rfl
        · exact kitV_of sv_BadDig
        · exact kitV_of sv_BadOrder
        · exact kitV_of sv_Unknown
  exact ⟨_, fun s v => .of_eq rfl, fun base _ _ => law_ok (n := 12) H (by decide) D_law rfl law_true⟩
end Z.Law
end

set_option maxRecDepth 1000000
open PySem PySem.W PyProof.Rows
set_option Elab.async false
set_option maxHeartbeats 0 in
theorem PySem.Challenge.cw_onestretch_k01_digs_checked_holds : PySem.Challenge.rw_onestretch_k01_digs_checked.Holds := by
  w_on; o_law; k_head; (case hw => w_witness2)
  k_fill
  refine L2.walk_ofB (l := PySem.Challenge.rw_onestretch_k01_digs_checked) (n := 63) (k := 25) (x := Str.ofString "script") (CX := fun w => L2.CX (PySem.Challenge.rw_onestretch_k01_digs_checked).prog w) (sp := fun w => Z.spL _ 63) rfl (by decide) rfl ⟨rfl, by decide, by decide⟩ (fun w h Y => PySem.W.kIn_of Y) ?F (fun _ _ a ns hl hb _ hS => ⟨a, ns, rfl, hS, hl, hb, fun _ => rfl⟩) (fun w H s e s' h => by obtain ⟨_, _, _, _, _, _, _, _, _, _, _, _, h⟩ := h; exact h)
  case F =>
    intro w mg fa h KX G hmg
    refine' Z.Law.all_mk KX G hmg ?g__wall ?l__wall ?c__wall ?k__wall ?g_is_whole ?l_is_whole ?c_is_whole ?k_is_whole ?g_is_name ?l_is_name ?c_is_name ?k_is_name ?g_is_pair ?l_is_pair ?c_is_pair ?k_is_pair ?g_is_ascending ?l_is_ascending ?c_is_ascending ?k_is_ascending ?g_are_names ?l_are_names ?c_are_names ?k_are_names ?g_are_graves ?l_are_graves ?c_are_graves ?k_are_graves ?g_are_some_of ?l_are_some_of ?c_are_some_of ?k_are_some_of ?g_is_right_kind ?l_is_right_kind ?c_is_right_kind ?k_is_right_kind ?g_first_wrong ?l_first_wrong ?c_first_wrong ?k_first_wrong ?g_check_dig ?l_check_dig ?c_check_dig ?k_check_dig ?g__law_numbers ?l__law_numbers ?c__law_numbers ?k__law_numbers ?g__law_names ?l__law_names ?c__law_names ?k__law_names ?g__law_hidden ?l__law_hidden ?c__law_hidden ?k__law_hidden ?g__law_dig ?l__law_dig ?c__law_dig ?k__law_dig ?g__law_refusal ?l__law_refusal ?c__law_refusal ?k__law_refusal ?g__law_wrong_kinds ?l__law_wrong_kinds ?c__law_wrong_kinds ?k__law_wrong_kinds ?g_law ?l_law ?c_law ?k_law ?g_DigError ?g_BadDig ?xL_BadDig ?rv_BadDig ?sa_BadDig ?ga_BadDig ?gg_BadDig ?no_BadDig ?fi_BadDig____init__ ?t_BadDig____init__ ?l_BadDig____init__ ?c_BadDig____init__ ?k_BadDig____init__ ?kC_BadDig ?eC_BadDig ?tC_BadDig ?hd_BadDig ?cc_BadDig ?mr_BadDig ?g_BadOrder ?xL_BadOrder ?rv_BadOrder ?sa_BadOrder ?ga_BadOrder ?gg_BadOrder ?no_BadOrder ?fi_BadOrder____init__ ?t_BadOrder____init__ ?l_BadOrder____init__ ?c_BadOrder____init__ ?k_BadOrder____init__ ?kC_BadOrder ?eC_BadOrder ?tC_BadOrder ?hd_BadOrder ?cc_BadOrder ?mr_BadOrder ?g_Unknown ?xL_Unknown ?rv_Unknown ?sa_Unknown ?ga_Unknown ?gg_Unknown ?no_Unknown ?fi_Unknown____init__ ?t_Unknown____init__ ?l_Unknown____init__ ?c_Unknown____init__ ?k_Unknown____init__ ?kC_Unknown ?eC_Unknown ?tC_Unknown ?hd_Unknown ?cc_Unknown ?mr_Unknown ?g_Dig ?pg_Dig ?hd_Dig ?po_Dig ?sa_Dig ?mk_Dig ?kp_Dig ?na_Dig__graves ?na_Dig__members ?na_Dig__had ?fi_Dig____init__ ?i_Dig____init__ ?l_Dig____init__ ?c_Dig____init__ ?k_Dig____init__ ?fi_Dig__kinds_with ?i_Dig__kinds_with ?l_Dig__kinds_with ?c_Dig__kinds_with ?k_Dig__kinds_with ?fi_Dig__graves ?i_Dig__graves ?l_Dig__graves ?c_Dig__graves ?k_Dig__graves ?fi_Dig__kinds ?i_Dig__kinds ?l_Dig__kinds ?c_Dig__kinds ?k_Dig__kinds ?fi_Dig__names ?i_Dig__names ?l_Dig__names ?c_Dig__names ?k_Dig__names ?fi_Dig__is_grave ?i_Dig__is_grave ?l_Dig__is_grave ?c_Dig__is_grave ?k_Dig__is_grave ?fi_Dig__is_kind ?i_Dig__is_kind ?l_Dig__is_kind ?c_Dig__is_kind ?k_Dig__is_kind ?fi_Dig__members ?i_Dig__members ?l_Dig__members ?c_Dig__members ?k_Dig__members ?fi_Dig__has ?i_Dig__has ?l_Dig__has ?c_Dig__has ?k_Dig__has ?fi_Dig__both ?i_Dig__both ?l_Dig__both ?c_Dig__both ?k_Dig__both ?sp ?tk ?eC_DigError ?tC_DigError ?ic_DigError ?ic_BadDig ?ic_BadOrder ?ic_Unknown ?su_DigError_DigError ?sv_BadDig ?su_BadDig_DigError ?su_BadDig_BadDig ?su_BadDig_BadOrder ?su_BadDig_Unknown ?sv_BadOrder ?su_BadOrder_DigError ?su_BadOrder_BadDig ?su_BadOrder_BadOrder ?su_BadOrder_Unknown ?sv_Unknown ?su_Unknown_DigError ?su_Unknown_BadDig ?su_Unknown_BadOrder ?su_Unknown_Unknown ?z_len ?z_all ?z_any ?z_sum ?z_min ?z_max ?z_sorted ?z_abs ?z_list ?z_tuple ?z_int ?z_str ?z_bool ?z_dict ?z_isinstance ?z_enumerate ?z_zip ?z_range ?z_ValueError ?g_LETTERS ?g_FIGURES ?g_MOST_SIGNS ?g_MOST_GRAVES ?g_MOST_KINDS ?g_WRONG_GRAVES ?g_WRONG_LIST
    (case g__wall => k_is)
    (case l__wall => k_is)
    (case c__wall => k_is)
    (case k__wall => k_is)
    (case g_is_whole => k_is)
    (case l_is_whole => k_is)
    (case c_is_whole => k_is)
    (case k_is_whole => k_is)
    (case g_is_name => k_is)
    (case l_is_name => k_is)
    (case c_is_name => k_is)
    (case k_is_name => k_is)
    (case g_is_pair => k_is)
    (case l_is_pair => k_is)
    (case c_is_pair => k_is)
    (case k_is_pair => k_is)
    (case g_is_ascending => k_is)
    (case l_is_ascending => k_is)
    (case c_is_ascending => k_is)
    (case k_is_ascending => k_is)
    (case g_are_names => k_is)
    (case l_are_names => k_is)
    (case c_are_names => k_is)
    (case k_are_names => k_is)
    (case g_are_graves => k_is)
    (case l_are_graves => k_is)
    (case c_are_graves => k_is)
    (case k_are_graves => k_is)
    (case g_are_some_of => k_is)
    (case l_are_some_of => k_is)
    (case c_are_some_of => k_is)
    (case k_are_some_of => k_is)
    (case g_is_right_kind => k_is)
    (case l_is_right_kind => k_is)
    (case c_is_right_kind => k_is)
    (case k_is_right_kind => k_is)
    (case g_first_wrong => k_is)
    (case l_first_wrong => k_is)
    (case c_first_wrong => k_is)
    (case k_first_wrong => k_is)
    (case g_check_dig => k_is)
    (case l_check_dig => k_is)
    (case c_check_dig => k_is)
    (case k_check_dig => k_is)
    (case g__law_numbers => k_is)
    (case l__law_numbers => k_is)
    (case c__law_numbers => k_is)
    (case k__law_numbers => k_is)
    (case g__law_names => k_is)
    (case l__law_names => k_is)
    (case c__law_names => k_is)
    (case k__law_names => k_is)
    (case g__law_hidden => k_is)
    (case l__law_hidden => k_is)
    (case c__law_hidden => k_is)
    (case k__law_hidden => k_is)
    (case g__law_dig => k_is)
    (case l__law_dig => k_is)
    (case c__law_dig => k_is)
    (case k__law_dig => k_is)
    (case g__law_refusal => k_is)
    (case l__law_refusal => k_is)
    (case c__law_refusal => k_is)
    (case k__law_refusal => k_is)
    (case g__law_wrong_kinds => k_is)
    (case l__law_wrong_kinds => k_is)
    (case c__law_wrong_kinds => k_is)
    (case k__law_wrong_kinds => k_is)
    (case g_law => k_is)
    (case l_law => k_is)
    (case c_law => k_is)
    (case k_law => k_is)
    (case g_DigError => k_is)
    (case g_BadDig => k_is)
    (case xL_BadDig => k_is)
    (case rv_BadDig => rfl)
    (case sa_BadDig => k_is)
    (case ga_BadDig => k_is)
    (case gg_BadDig => k_is)
    (case no_BadDig => k_is)
    (case fi_BadDig____init__ => k_is)
    (case t_BadDig____init__ => k_is)
    (case l_BadDig____init__ => k_is)
    (case c_BadDig____init__ => k_is)
    (case k_BadDig____init__ => k_is)
    (case kC_BadDig => k_is)
    (case eC_BadDig => k_is)
    (case tC_BadDig => k_is)
    (case hd_BadDig => k_is)
    (case cc_BadDig => k_is)
    (case mr_BadDig => k_is)
    (case g_BadOrder => k_is)
    (case xL_BadOrder => k_is)
    (case rv_BadOrder => rfl)
    (case sa_BadOrder => k_is)
    (case ga_BadOrder => k_is)
    (case gg_BadOrder => k_is)
    (case no_BadOrder => k_is)
    (case fi_BadOrder____init__ => k_is)
    (case t_BadOrder____init__ => k_is)
    (case l_BadOrder____init__ => k_is)
    (case c_BadOrder____init__ => k_is)
    (case k_BadOrder____init__ => k_is)
    (case kC_BadOrder => k_is)
    (case eC_BadOrder => k_is)
    (case tC_BadOrder => k_is)
    (case hd_BadOrder => k_is)
    (case cc_BadOrder => k_is)
    (case mr_BadOrder => k_is)
    (case g_Unknown => k_is)
    (case xL_Unknown => k_is)
    (case rv_Unknown => rfl)
    (case sa_Unknown => k_is)
    (case ga_Unknown => k_is)
    (case gg_Unknown => k_is)
    (case no_Unknown => k_is)
    (case fi_Unknown____init__ => k_is)
    (case t_Unknown____init__ => k_is)
    (case l_Unknown____init__ => k_is)
    (case c_Unknown____init__ => k_is)
    (case k_Unknown____init__ => k_is)
    (case kC_Unknown => k_is)
    (case eC_Unknown => k_is)
    (case tC_Unknown => k_is)
    (case hd_Unknown => k_is)
    (case cc_Unknown => k_is)
    (case mr_Unknown => k_is)
    (case g_Dig => k_is)
    (case pg_Dig => k_is)
    (case hd_Dig => k_is)
    (case po_Dig => k_is)
    (case sa_Dig => k_is)
    (case mk_Dig => k_is)
    (case kp_Dig => k_is)
    (case na_Dig__graves => k_is)
    (case na_Dig__members => k_is)
    (case na_Dig__had => k_is)
    (case fi_Dig____init__ => k_is)
    (case i_Dig____init__ => k_is)
    (case l_Dig____init__ => k_is)
    (case c_Dig____init__ => k_is)
    (case k_Dig____init__ => k_is)
    (case fi_Dig__kinds_with => k_is)
    (case i_Dig__kinds_with => k_is)
    (case l_Dig__kinds_with => k_is)
    (case c_Dig__kinds_with => k_is)
    (case k_Dig__kinds_with => k_is)
    (case fi_Dig__graves => k_is)
    (case i_Dig__graves => k_is)
    (case l_Dig__graves => k_is)
    (case c_Dig__graves => k_is)
    (case k_Dig__graves => k_is)
    (case fi_Dig__kinds => k_is)
    (case i_Dig__kinds => k_is)
    (case l_Dig__kinds => k_is)
    (case c_Dig__kinds => k_is)
    (case k_Dig__kinds => k_is)
    (case fi_Dig__names => k_is)
    (case i_Dig__names => k_is)
    (case l_Dig__names => k_is)
    (case c_Dig__names => k_is)
    (case k_Dig__names => k_is)
    (case fi_Dig__is_grave => k_is)
    (case i_Dig__is_grave => k_is)
    (case l_Dig__is_grave => k_is)
    (case c_Dig__is_grave => k_is)
    (case k_Dig__is_grave => k_is)
    (case fi_Dig__is_kind => k_is)
    (case i_Dig__is_kind => k_is)
    (case l_Dig__is_kind => k_is)
    (case c_Dig__is_kind => k_is)
    (case k_Dig__is_kind => k_is)
    (case fi_Dig__members => k_is)
    (case i_Dig__members => k_is)
    (case l_Dig__members => k_is)
    (case c_Dig__members => k_is)
    (case k_Dig__members => k_is)
    (case fi_Dig__has => k_is)
    (case i_Dig__has => k_is)
    (case l_Dig__has => k_is)
    (case c_Dig__has => k_is)
    (case k_Dig__has => k_is)
    (case fi_Dig__both => k_is)
    (case i_Dig__both => k_is)
    (case l_Dig__both => k_is)
    (case c_Dig__both => k_is)
    (case k_Dig__both => k_is)
    (case sp => k_is)
    (case tk => k_is)
    (case eC_DigError => k_is)
    (case tC_DigError => k_is)
    (case ic_DigError => k_is)
    (case ic_BadDig => k_is)
    (case ic_BadOrder => k_is)
    (case ic_Unknown => k_is)
    (case su_DigError_DigError => k_is)
    (case sv_BadDig => k_is)
    (case su_BadDig_DigError => k_is)
    (case su_BadDig_BadDig => k_is)
    (case su_BadDig_BadOrder => k_is)
    (case su_BadDig_Unknown => k_is)
    (case sv_BadOrder => k_is)
    (case su_BadOrder_DigError => k_is)
    (case su_BadOrder_BadDig => k_is)
    (case su_BadOrder_BadOrder => k_is)
    (case su_BadOrder_Unknown => k_is)
    (case sv_Unknown => k_is)
    (case su_Unknown_DigError => k_is)
    (case su_Unknown_BadDig => k_is)
    (case su_Unknown_BadOrder => k_is)
    (case su_Unknown_Unknown => k_is)
    (case z_len => k_is)
    (case z_all => k_is)
    (case z_any => k_is)
    (case z_sum => k_is)
    (case z_min => k_is)
    (case z_max => k_is)
    (case z_sorted => k_is)
    (case z_abs => k_is)
    (case z_list => k_is)
    (case z_tuple => k_is)
    (case z_int => k_is)
    (case z_str => k_is)
    (case z_bool => k_is)
    (case z_dict => k_is)
    (case z_isinstance => k_is)
    (case z_enumerate => k_is)
    (case z_zip => k_is)
    (case z_range => k_is)
    (case z_ValueError => k_is)
    (case g_LETTERS => k_is)
    (case g_FIGURES => k_is)
    (case g_MOST_SIGNS => k_is)
    (case g_MOST_GRAVES => k_is)
    (case g_MOST_KINDS => k_is)
    (case g_WRONG_GRAVES => k_is)
    (case g_WRONG_LIST => k_is)

