import PyProof.Rows.All
import Wide.All
import OpenK.AllK
import Wide.FinOn
import PySem.Syntax
import PyProof.ReprReads
import HandS.ForMost
import HandS.Exc
import HandS.Lambda
import HandS.Style
import HandS.TupAny
import HandS.TupMul
import HandS.Deep
import HandS.Wide
import HandS.Small
import HandS.SortInts
import HandS.IsInst
import HandS.Strs
import HandS.SetFor
import HandS.Iter
import HandS.Zip
import KE.GoesMore
import HandS.Comp
import HandS.Conv
import HandS.HeadEnd
import HandS.WordsExc
import HandS.ExcSuper
import KE.KSuper
import HandS.TryOnly
import HandS.ExcIs
import HandS.ExcField
import KE.KExcIs
import PyProof.ReprRoads
import HandS.OwnEq
import HandS.EndTab
import HandS.HeadHook4
import KE.KStateDown
import HandS.Head0
import HandS.Head1
import HandS.Head2
import HandS.HeadHook1
import HandS.HeadHook2
import PySem.Challenge.RW_tablegroups_k01_whole_groups_judged
set_option Elab.async false
section
set_option linter.all false
namespace Mi
open PySem (Str Operator CmpOp)
/-! ### data -/
inductive D where
  | non | bl (b : Bool) | int (i : Int) | str (s : Str)
  | lst (xs : List D) | tup (xs : List D)
  | ty (n : Nat) | glo (x : Nat)
  | obj (c : Nat) (fs : List (Nat × D))
  | dct (kvs : List (D × D)) | set (xs : List D)
  deriving Inhabited
inductive W where
  | d (x : D) | loc (n : Nat)
  deriving Inhabited
inductive Ob where
  | lst (ws : List W) | dct (kvs : List (D × W)) | ins (c : Nat) (fs : List (Nat × W)) | dead | tab (q : Str) | ora (ds : List (Nat × Nat))
  deriving Inhabited
structure Ex where
  c : Nat
  fs : List (Nat × D)
inductive Val where
  | w (w : W) | fl (ws : List W)
inductive Item where
  | one (w : W) | many (ws : List W)
inductive R (α : Type) where
  | ok (a : α) (o : List Ob) | exc (e : Ex) (o : List Ob) | bad
abbrev Sg := List (Option W)
inductive SR where
  | next (σ : Sg) (o : List Ob) | ret (v : Val) (o : List Ob) | brk (σ : Sg) (o : List Ob) | cont (σ : Sg) (o : List Ob)
  | exc (e : Ex) (σ : Sg) (o : List Ob) | bad
/-! ### syntax -/
mutual
inductive T where
  | n (i : Nat) | tup (r : Ts)
inductive Ts where
  | nil | cons (t : T) (r : Ts)
end
mutual
inductive E where
  | c (d : D) | gc (x : Nat) (d : D) | gf (x : Nat) | var (i : Nat)
  | bin (op : Operator) (a b : E) | neg (a : E)
  | cmp (op : CmpOp) (a b : E) | cmpp (op : CmpOp) (a b : E) | chain (op op' : CmpOp) (a b c : E) | isc (neg : Bool) (a : E) (d : D)
  | and (a b : E) | or (a b : E) | not (a : E) | ite (c a b : E)
  | tup (as : A) | lst (as : A) | alloc (e : E)
  | comp (own : List Nat) (t : T) (it : I) (test : E) (elt : E)
  | comp2 (own own1 : List Nat) (t : T) (it : I) (test : E) (t1 : T) (it1 : I) (test1 : E) (elt : E)
  | idx (a i : E) | sl (bl bh : Bool) (a lo hi : E) | rev (a : E) | attr (a : E) (f : Nat)
  | call (f : Nat) (as : A) | mk (c : Nat) (as : A)
  | bi (b : Nat) (as : A) | isi (T : Nat) (a : E) | iso (c : Nat) (a : E) | coll (b : Nat) (as : A)
  | mth (m : Nat) (r : E) (as : A) | mut (m : Nat) (i : E) (as : A)
  | lam (f : Nat) (j : Nat) (q : Str) (body : E) | thk
  | exis (i : Nat) (c : Nat) | exat (i : Nat) (f : Nat)
inductive A where
  | nil | cons (e : E) (r : A)
inductive I where
  | of (e : E) | range (as : A) | enum (e : E) | zip (a b : E) | rev (e : E) | items (e : E)
inductive S where
  | set (i : Nat) (e : E) | unp (t : T) (e : E) | par (t : Ts) (as : A)
  | seti (o i e : E) | parS (os is as : A) | seta (o : E) (f : Nat) (e : E) | aug (i : Nat) (op : Operator) (e : E) | augi (o i : E) (op : Operator) (e : E) | auga (o : E) (f : Nat) (op : Operator) (e : E)
  | ex (e : E) | ret (e : E) | retN | ite (c : E) (a b : B)
  | for (t : T) (it : I) (kill : List Nat) (b : B) | while (c : E) (kill : List Nat) (b : B)
  | raise (c : Nat) (as : A) | try (b : B) (c : Nat) (slot : Option Nat) (h : B)
  | pass | brk | cont
inductive B where
  | nil | cons (s : S) (r : B)
end
/-! ### views -/
def allD : List W → Option (List D)
  | [] => some []
  | .d x :: r => match allD r with | some xs => some (x :: xs) | none => none
  | .loc _ :: _ => none
def allDkv : List (D × W) → Option (List (D × D))
  | [] => some []
  | (k, .d x) :: r => match allDkv r with | some xs => some ((k, x) :: xs) | none => none
  | (_, .loc _) :: _ => none
def allDfs : List (Nat × W) → Option (List (Nat × D))
  | [] => some []
  | (k, .d x) :: r => match allDfs r with | some xs => some ((k, x) :: xs) | none => none
  | (_, .loc _) :: _ => none
/-- a value as it stands, its items data -/
def view (o : List Ob) : W → Option D
  | .d x => some x
  | .loc n => match o[n]? with
    | some (.lst ws) => (allD ws).map .lst
    | some (.dct kvs) => (allDkv kvs).map .dct
    | _ => none
def viewAll (o : List Ob) : List W → Option (List D)
  | [] => some []
  | w :: r => match view o w with
    | some x => match viewAll o r with | some xs => some (x :: xs) | none => none
    | none => none
/-- a value as it stands, at any depth (lists alone) -/
def deep (o : List Ob) : Nat → W → Option D
  | _, .d x => some x
  | 0, .loc _ => none
  | n + 1, .loc k => match o[k]? with
    | some (.lst ws) => (ws.mapM (deep o n)).map .lst
    | some (.dct kvs) => (allDkv kvs).map .dct
    | some (.ins c fs) => (allDfs fs).map (.obj c)
    | _ => none
def settle : Val → Option W
  | .w w => some w
  | .fl ws => match allD ws with | some xs => some (.d (.lst xs)) | none => none
/-! ### pure operations -/
mutual
def eqD : D → D → Bool
  | .non, .non => true
  | .bl a, .bl b => a == b
  | .bl a, .int j => (if a then 1 else 0) == j
  | .int i, .bl b => i == (if b then 1 else 0)
  | .int i, .int j => i == j
  | .str x, .str y => x == y
  | .lst xs, .lst ys => eqDs xs ys
  | .tup xs, .tup ys => eqDs xs ys
  | _, _ => false
def eqDs : List D → List D → Bool
  | [], [] => true
  | x :: xs, y :: ys => eqD x y && eqDs xs ys
  | _, _ => false
end
mutual
/-- plain data of bounded depth -/
def plain : Nat → D → Bool
  | _, .non => true
  | _, .bl _ => true
  | _, .int _ => true
  | _, .str s => s.cps.all (· < 0x110000)
  | n + 1, .lst xs => plains n xs
  | n + 1, .tup xs => plains n xs
  | _, _ => false
def plains : Nat → List D → Bool
  | _, [] => true
  | n, x :: xs => plain n x && plains n xs
end
def line : Nat := 16777216
def ixN (n : Nat) (i : Int) : Option Nat := if 0 ≤ i then (if i < n then some i.toNat else none) else if -(n : Int) ≤ i then some (i + n).toNat else none
def atI {α : Type} (xs : List α) (i : Int) : Option α := match ixN xs.length i with | some j => xs[j]? | none => none
def mulOk (i j : Int) : Bool := (decide (-(2 ^ 64) < i) && decide (i < 2 ^ 64)) || (decide (-(2 ^ 64) < j) && decide (j < 2 ^ 64))
def flD (xs : List D) : Val := .fl (xs.map .d)
def binD : Operator → D → D → Option Val
  | .Add, .int i, .int j => some (.w (.d (.int (i + j))))
  | .Add, .str x, .str y => if x.length + y.length ≤ line then some (.w (.d (.str (x ++ y)))) else none
  | .Add, .tup xs, .tup ys => if xs.length + ys.length ≤ line then some (.w (.d (.tup (xs ++ ys)))) else none
  | .Add, .lst xs, .lst ys => if xs.length + ys.length ≤ line then some (flD (xs ++ ys)) else none
  | .Sub, .int i, .int j => some (.w (.d (.int (i - j))))
  | .Mult, .int i, .int j => if mulOk i j then some (.w (.d (.int (i * j)))) else none
  | .Mult, .lst xs, .int k => if decide (-(2 ^ 63) ≤ k) && decide (k < 2 ^ 63) && decide (xs.length * k.toNat ≤ line) then some (flD (List.replicate k.toNat xs).flatten) else none
  | .Mult, .tup xs, .int k => if decide (-(2 ^ 63) ≤ k) && decide (k < 2 ^ 63) && decide (xs.length * k.toNat ≤ line) then some (.w (.d (.tup (List.replicate k.toNat xs).flatten))) else none
  | .FloorDiv, .int i, .int j => if j ≠ 0 ∧ j.natAbs < 1073741824 then some (.w (.d (.int (i.fdiv j)))) else none
  | .Mod, .int i, .int j => if j ≠ 0 then some (.w (.d (.int (i.fmod j)))) else none
  | .Pow, .int i, .int j => if 0 ≤ j ∧ j ≤ 1000000 ∧ i.natAbs < 2 ^ 64 then some (.w (.d (.int (i ^ j.toNat)))) else none
  | .LShift, .int i, .int j => if 0 ≤ j ∧ j ≤ 1000000 ∧ i.natAbs < 2 ^ 64 then some (.w (.d (.int (i * 2 ^ j.toNat)))) else none
  | .RShift, .int i, .int j => if 0 ≤ j then some (.w (.d (.int (i / 2 ^ j.toNat)))) else none
  | _, _, _ => none
def negD : D → Option D
  | .int i => some (.int (-i))
  | _ => none
def memD (x : D) (ys : List D) : Bool := ys.any fun y => eqD y x
def cmpD : CmpOp → D → D → Option Bool
  | .Eq, a, b => if plain 60 a && plain 60 b then some (eqD a b) else none
  | .NotEq, a, b => if plain 60 a && plain 60 b then some (!eqD a b) else none
  | .Lt, .int i, .int j => some (decide (i < j))
  | .LtE, .int i, .int j => some (decide (i ≤ j))
  | .Gt, .int i, .int j => some (decide (j < i))
  | .GtE, .int i, .int j => some (decide (j ≤ i))
  | .In, x, .lst ys => if plain 60 x && plain 60 (.lst ys) then some (memD x ys) else none
  | .In, x, .tup ys => if plain 60 x && plain 60 (.lst ys) then some (memD x ys) else none
  | .NotIn, x, .lst ys => if plain 60 x && plain 60 (.lst ys) then some (!memD x ys) else none
  | .NotIn, x, .tup ys => if plain 60 x && plain 60 (.lst ys) then some (!memD x ys) else none
  | _, _, _ => none
/-- is None, is True, is False -/
def iscD : D → D → Option Bool
  | x, .non => some (match x with | .non => true | _ => false)
  | .bl a, .bl b => some (a == b)
  | _, _ => none
def sIx (n d : Nat) : Option Int → Nat
  | none => d
  | some i => if i < 0 then (i + n).toNat else min i.toNat n
def cut {α : Type} (xs : List α) (lo hi : Option Int) : List α := (xs.drop (sIx xs.length 0 lo)).take (sIx xs.length xs.length hi - sIx xs.length 0 lo)
def part : D → Option (Option Int)
  | .non => some none
  | .int i => some (some i)
  | _ => none
end Mi
end
section
set_option linter.all false
namespace Mi
open PySem (Str Operator CmpOp PyData)
/-! ### plain data as the library's data -/
mutual
def toPy : D → PyData
  | .bl b => .bool b
  | .int i => .int i
  | .str s => .str s
  | .lst xs => .list (toPys xs)
  | .tup xs => .tuple (toPys xs)
  | _ => .none
def toPys : List D → List PyData
  | [] => []
  | x :: xs => toPy x :: toPys xs
end
structure Fn where
  np : Nat
  ns : Nat
  body : B
structure Cl where
  init : Option Nat
  eqm : Option Nat
  mu : Bool
  /-- an exception class: the fields that its arguments are kept in -/
  ex : Option (List Nat)
abbrev Thk := List Ob → R Val
abbrev Cal := Nat → Option Thk → List W → List Ob → R Val
structure Tab where
  fn : Nat → Option Fn
  cl : Nat → Option Cl
  sub : Nat → Nat → Bool
  /-- what is told by a function of one's own, and from which depth on -/
  nat : Nat → Option (Nat × (List W → List Ob → R Val))
structure Cx where
  tab : Tab
  cal : Cal
  wf : Nat
  thk : Option Thk
  cur : Option Ex
/-! ### built-ins on data -/
namespace Bi
abbrev len : Nat := 0
abbrev tup : Nat := 1
abbrev lst : Nat := 2
abbrev abs : Nat := 3
abbrev int : Nat := 4
abbrev sum : Nat := 5
abbrev max : Nat := 6
abbrev min : Nat := 7
abbrev all : Nat := 8
abbrev any : Nat := 9
abbrev repr : Nat := 10
abbrev sorted : Nat := 11
abbrev set : Nat := 12
abbrev str : Nat := 13
abbrev isInt : Nat := 20
abbrev isBool : Nat := 21
abbrev isStr : Nat := 22
abbrev isTup : Nat := 23
abbrev isLst : Nat := 24
end Bi
def reprD (x : D) : Option Str := if plain 60 x && (toPy x).showable && decide ((toPy x).shown.length ≤ line) then some (toPy x).shown else none
def biRepr (ds : List D) : Option Val := match ds with
  | [x] => (reprD x).map fun s => .w (.d (.str s))
  | _ => none
def intsD : List D → Option (List Int)
  | [] => some []
  | .int i :: r => match intsD r with | some xs => some (i :: xs) | none => none
  | _ :: _ => none
def boolsD : List D → Option (List Bool)
  | [] => some []
  | .bl b :: r => match boolsD r with | some xs => some (b :: xs) | none => none
  | _ :: _ => none
def maxI : List Int → Option Int
  | [] => none
  | x :: xs => some (xs.foldl (fun a b => if b > a then b else a) x)
def minI : List Int → Option Int
  | [] => none
  | x :: xs => some (xs.foldl (fun a b => if b < a then b else a) x)
def insI (x : Int) : List Int → List Int
  | [] => [x]
  | y :: ys => if x ≤ y then x :: y :: ys else y :: insI x ys
def sortI : List Int → List Int
  | [] => []
  | x :: xs => insI x (sortI xs)
def wd (x : D) : Val := .w (.d x)
def isiD (T : Nat) (x : D) : Option Bool :=
  match x with
  | .non => some false
  | .bl _ => some (T == Bi.isInt || T == Bi.isBool)
  | .int _ => some (T == Bi.isInt)
  | .str _ => some (T == Bi.isStr)
  | .tup _ => some (T == Bi.isTup)
  | .lst _ => some (T == Bi.isLst)
  | .obj _ _ => some false
  | .dct _ => some false
  | _ => none
def biLen (ds : List D) : Option Val := match ds with
    | [.lst xs] => some (wd (.int xs.length))
    | [.tup xs] => some (wd (.int xs.length))
    | [.str s] => if s.length ≤ line then some (wd (.int s.length)) else none
    | _ => none
def biTup (ds : List D) : Option Val := match ds with
    | [.lst xs] => some (wd (.tup xs))
    | [.tup xs] => some (wd (.tup xs))
    | _ => none
def biLst (ds : List D) : Option Val := match ds with
    | [.lst xs] => some (flD xs)
    | [.tup xs] => some (flD xs)
    | _ => none
def biAbs (ds : List D) : Option Val := match ds with
    | [.int i] => some (wd (.int (if i < 0 then -i else i)))
    | _ => none
def biInt (ds : List D) : Option Val := match ds with
    | [.int i] => some (wd (.int i))
    | [.bl k] => some (wd (.int (if k then 1 else 0)))
    | _ => none
def biSum (ds : List D) : Option Val := match ds with
    | [.lst xs] => match intsD xs with | some ns => some (wd (.int ns.sum)) | none => none
    | _ => none
def biMax (ds : List D) : Option Val := match ds with
    | [.lst xs] => match intsD xs with | some ns => (maxI ns).map fun m => wd (.int m) | none => none
    | [.int i, .int j] => some (wd (.int (if j > i then j else i)))
    | _ => none
def biMin (ds : List D) : Option Val := match ds with
    | [.lst xs] => match intsD xs with | some ns => (minI ns).map fun m => wd (.int m) | none => none
    | [.int i, .int j] => some (wd (.int (if j < i then j else i)))
    | _ => none
def biAll (ds : List D) : Option Val := match ds with
    | [.lst xs] => match boolsD xs with | some bs => some (wd (.bl (bs.all id))) | none => none
    | _ => none
def biAny (ds : List D) : Option Val := match ds with
    | [.lst xs] => match boolsD xs with | some bs => some (wd (.bl (bs.any id))) | none => none
    | _ => none
def biSorted (ds : List D) : Option Val := match ds with
    | [.lst xs] => match intsD xs with | some ns => some (flD ((sortI ns).map .int)) | none => none
    | [.tup xs] => match intsD xs with | some ns => some (flD ((sortI ns).map .int)) | none => none
    | _ => none
def biD (b : Nat) (ds : List D) : Option Val :=
  if b = Bi.len then biLen ds
  else if b = Bi.tup then biTup ds
  else if b = Bi.lst then biLst ds
  else if b = Bi.abs then biAbs ds
  else if b = Bi.int then biInt ds
  else if b = Bi.sum then biSum ds
  else if b = Bi.max then biMax ds
  else if b = Bi.min then biMin ds
  else if b = Bi.all then biAll ds
  else if b = Bi.any then biAny ds
  else if b = Bi.sorted then biSorted ds
  else if b = Bi.repr then biRepr ds
  else none
/-! ### loops -/
mutual
def bindT : T → Item → Sg → Option Sg
  | .n i, .one w, σ => some (σ.set i (some w))
  | .n _, .many _, _ => none
  | .tup r, .many ws, σ => bindTs r ws σ
  | .tup r, .one (.d (.tup xs)), σ => bindTs r (xs.map .d) σ
  | .tup _, .one _, _ => none
def bindTs : Ts → List W → Sg → Option Sg
  | .nil, [], σ => some σ
  | .cons t r, w :: ws, σ => match bindT t (.one w) σ with
    | some σ1 => bindTs r ws σ1
    | none => none
  | _, _, _ => none
end
/-- an iterator: at the store, at the place: what comes (the end: some none) -/
abbrev Itr := List Ob → Nat → Option (Option Item)
def killAll (σ : Sg) : List Nat → Sg
  | [] => σ
  | i :: r => (killAll σ r).set i none
def under (n : Nat) : Sg → Bool
  | [] => true
  | some (.loc k) :: r => decide (k < n) && under n r
  | _ :: r => under n r
def trunc (n : Nat) (σ : Sg) (o : List Ob) : List Ob := if under n σ then o.take n else o
def clean (n : Nat) (kill : List Nat) : SR → SR
  | .next σ o => let σ' := killAll σ kill; .next σ' (trunc n σ' o)
  | .cont σ o => let σ' := killAll σ kill; .next σ' (trunc n σ' o)
  | r => r
def forG (step : Item → Sg → List Ob → SR) (f : Itr) : Nat → Nat → Sg → List Ob → SR
  | 0, _, _, _ => .bad
  | k + 1, i, σ, o => match f o i with
    | some (some x) => match step x σ o with
      | .next σ' o' => forG step f k (i + 1) σ' o'
      | .brk σ' o' => .next σ' o'
      | .cont _ _ => .bad
      | r => r
    | some none => .next σ o
    | none => .bad
def whileN (test : Sg → List Ob → R Bool) (body : Sg → List Ob → SR) : Nat → Sg → List Ob → SR
  | 0, _, _ => .bad
  | k + 1, σ, o => match test σ o with
    | .ok true o1 => match body σ o1 with
      | .next σ' o' => whileN test body k σ' o'
      | .brk σ' o' => .next σ' o'
      | .cont _ _ => .bad
      | r => r
    | .ok false o1 => .next σ o1
    | .exc e o1 => .exc e σ o1
    | .bad => .bad
/-- what a turn of a comprehension gives is put behind -/
def compG (step : Item → List Ob → R (List W)) (f : Itr) : Nat → Nat → List W → List Ob → R (List W)
  | 0, _, _, _ => .bad
  | k + 1, i, acc, o => match f o i with
    | some (some x) => match step x o with
      | .ok ws o1 => if acc.length + ws.length ≤ line then compG step f k (i + 1) (acc ++ ws) o1 else .bad
      | _ => .bad
    | some none => .ok acc o
    | none => .bad
def truth : Val → Option Bool
  | .w (.d (.bl b)) => some b
  | _ => none
def keep (n : Nat) (w : W) (o : List Ob) : List Ob := match w with
  | .d _ => o.take n
  | .loc _ => o
/-! ### freezing -/
mutual
def freeze (n0 : Nat) (o : List Ob) : Nat → W → Option D
  | _, .d x => some x
  | 0, .loc _ => none
  | n + 1, .loc k => if k < n0 then none else match o[k]? with
    | some (.lst ws) => match freezes n0 o n ws with | some xs => some (.lst xs) | none => none
    | _ => none
def freezes (n0 : Nat) (o : List Ob) : Nat → List W → Option (List D)
  | _, [] => some []
  | n, w :: ws => match freeze n0 o n w with
    | some x => match freezes n0 o n ws with | some xs => some (x :: xs) | none => none
    | none => none
end
/-- what a call hands back, its own objects dropped -/
def finish (n0 : Nat) (v : Val) (o : List Ob) : R Val :=
  match v with
  | .w (.d x) => .ok (.w (.d x)) (o.take n0)
  | .w (.loc k) => if k < n0 then .ok (.w (.loc k)) (o.take n0) else match freeze n0 o 60 (.loc k) with
    | some (.lst xs) => .ok (flD xs) (o.take n0)
    | _ => .bad
  | .fl ws => match freezes n0 o 60 ws with
    | some xs => .ok (flD xs) (o.take n0)
    | none => .bad
def lookN {α : Type} (f : Nat) : List (Nat × α) → Option α
  | [] => none
  | (g, x) :: r => if g = f then some x else lookN f r
def putN {α : Type} (f : Nat) (v : α) : List (Nat × α) → List (Nat × α)
  | [] => [(f, v)]
  | (g, x) :: r => if g = f then (f, v) :: r else (g, x) :: putN f v r
/-- C(..) of a plain class -/
def mkR (cx : Cx) (c : Nat) (ws : List W) (o : List Ob) : R Val :=
  match cx.tab.cl c with
  | some { init := some f, mu := m, .. } =>
    let n := o.length
    match cx.cal f none (.loc n :: ws) (o ++ [.ins c []]) with
    | .ok (.w (.d .non)) o2 => if m then .ok (.w (.loc n)) (o2.take (n + 1)) else match o2[n]? with
      | some (.ins c' fs) => match allDfs fs with
        | some gs => .ok (.w (.d (.obj c' gs))) (o2.take n)
        | none => .bad
      | _ => .bad
    | .ok _ _ => .bad
    | .exc e o2 => .exc e (o2.take n)
    | .bad => .bad
  | _ => .bad
/-- the own __eq__ of a class -/
def eqOwn (cx : Cx) (neg : Bool) (c : Nat) (a b : W) (o : List Ob) : R Val :=
  match cx.tab.cl c with
  | some { eqm := some f, .. } => match cx.cal f none [a, b] o with
    | .ok (.w (.d (.bl k))) o1 => .ok (.w (.d (.bl (if neg then !k else k)))) o1
    | _ => .bad
  | _ => .bad
def cmpW (cx : Cx) (op : CmpOp) (a b : W) (o : List Ob) : R Val :=
  match op with
  | .Eq => match deep o 60 a, deep o 60 b with
    | some (.str x), some (.str y) => .ok (wd (.bl (x == y))) o
    | some (.obj _ _), some (.glo _) => .bad
    | some (.obj c _), some _ => eqOwn cx false c a b o
    | some x, some y => if plain 60 x && plain 60 y then .ok (wd (.bl (eqD x y))) o else .bad
    | _, _ => .bad
  | .NotEq => match deep o 60 a, deep o 60 b with
    | some (.str x), some (.str y) => .ok (wd (.bl (!(x == y)))) o
    | some (.obj _ _), some (.glo _) => .bad
    | some (.obj c _), some _ => eqOwn cx true c a b o
    | some x, some y => if plain 60 x && plain 60 y then .ok (wd (.bl (!eqD x y))) o else .bad
    | _, _ => .bad
  | op => match view o a, view o b with
    | some x, some y => match cmpD op x y with
      | some k => .ok (wd (.bl k)) o
      | none => .bad
    | _, _ => .bad
def idxW (o : List Ob) (a : W) (k : D) : Option W :=
  match a, k with
  | .d (.tup xs), .int i => (atI xs i).map .d
  | .d (.lst xs), .int i => (atI xs i).map .d
  | .loc n, .int i => match o[n]? with
    | some (.lst ws) => atI ws i
    | _ => none
  | _, _ => none
def slD (x : D) (lo hi : Option Int) : Option Val :=
  match x with
  | .tup xs => some (wd (.tup (cut xs lo hi)))
  | .lst xs => some (flD (cut xs lo hi))
  | _ => none
def revD : D → Option Val
  | .tup xs => some (wd (.tup xs.reverse))
  | .lst xs => some (flD xs.reverse)
  | _ => none
def attrW (o : List Ob) (a : W) (f : Nat) : Option W :=
  match a with
  | .d (.obj _ fs) => (lookN f fs).map .d
  | .loc n => match o[n]? with
    | some (.ins _ fs) => lookN f fs
    | _ => none
  | _ => none
namespace Mt
abbrev index : Nat := 0
abbrev count : Nat := 1
abbrev append : Nat := 10
abbrev pop : Nat := 11
abbrev extend : Nat := 12
end Mt
def indexD (x : D) : List D → Nat → Option Nat
  | [], _ => none
  | y :: ys, i => if eqD y x then some i else indexD x ys (i + 1)
def mthD (m : Nat) (xs : List D) (ds : List D) : Option Val :=
  match ds with
  | [x] => if plain 60 x && plains 59 xs then
      if m = Mt.index then (indexD x xs 0).map fun i => wd (.int i)
      else if m = Mt.count then some (wd (.int ((xs.filter fun y => eqD y x).length : Nat)))
      else none
    else none
  | _ => none
/-- o.append(w) .. : a younger list is put in frozen -/
def putIn (n : Nat) (o : List Ob) (w : W) : Option W := match w with
  | .d x => some (.d x)
  | .loc k => if k < n then some (.loc k) else none
def mutW (m : Nat) (n : Nat) (args : List W) (o : List Ob) : R Val :=
  match o[n]? with
  | some (.lst ws) =>
    if m = Mt.append then match args with
      | [w] => match putIn n o w with
        | some w' => if ws.length < line then .ok (wd .non) (o.set n (.lst (ws ++ [w']))) else .bad
        | none => .bad
      | _ => .bad
    else if m = Mt.pop then match args with
      | [] => match ws[ws.length - 1]? with
        | some w => .ok (.w w) (o.set n (.lst ws.dropLast))
        | none => .bad
      | [.d (.int i)] => match ixN ws.length i with
        | some j => match ws[j]? with
          | some w => .ok (.w w) (o.set n (.lst (ws.eraseIdx j)))
          | none => .bad
        | none => .bad
      | _ => .bad
    else if m = Mt.extend then match args with
      | [w] => match view o w with
        | some (.lst xs) => if ws.length + xs.length ≤ line then .ok (wd .non) (o.set n (.lst (ws ++ xs.map .d))) else .bad
        | _ => .bad
      | _ => .bad
    else .bad
  | _ => .bad
def setiW (o : List Ob) (a : W) (k : D) (w : W) : Option (List Ob) :=
  match a, k with
  | .loc n, .int i => match o[n]? with
    | some (.lst ws) => match putIn n o w, ixN ws.length i with
      | some w', some j => some (o.set n (.lst (ws.set j w')))
      | _, _ => none
    | _ => none
  | _, _ => none
def setaW (o : List Ob) (a : W) (f : Nat) (w : W) : Option (List Ob) :=
  match a with
  | .loc n => match o[n]? with
    | some (.ins c fs) => match putIn n o w with
      | some w' => if fs.length < 500 then some (o.set n (.ins c (putN f w' fs))) else none
      | none => none
    | _ => none
  | _ => none
def rangeIs (lo : Int) (n : Nat) : List Item := (List.range n).map fun i => .one (.d (.int (lo + (i : Nat))))
def rngOk (i : Int) : Bool := decide (-(2 ^ 62) ≤ i) && decide (i < 2 ^ 62)
/-- the item at a place of a list or a tuple -/
def atW (w : W) : List Ob → Nat → Option (Option W) := match w with
  | .d (.tup xs) => fun _ i => some (xs[i]?.map .d)
  | .d (.lst xs) => fun _ i => some (xs[i]?.map .d)
  | .loc n => fun o i => match o[n]? with
    | some (.lst ws) => some ws[i]?
    | _ => none
  | _ => fun _ _ => none
def enumI (w : W) : Itr := fun o i => match atW w o i with
  | some (some x) => some (some (.many [.d (.int (i : Nat)), x]))
  | some none => some none
  | none => none
def zipI (w v : W) : Itr := fun o i => match atW w o i with
  | some (some x) => match atW v o i with
    | some (some y) => some (some (.many [x, y]))
    | some none => some none
    | none => none
  | some none => match atW v o i with
    | some _ => some none
    | none => none
  | none => none
def oneI (w : W) : Itr := fun o i => match atW w o i with
  | some (some x) => some (some (.one x))
  | some none => some none
  | none => none
def rngI (lo : Int) (n : Nat) : Itr := fun _ i => some (if i < n then some (.one (.d (.int (lo + (i : Nat))))) else none)
/-- one after another -/
def bnd {α β : Type} (r : R α) (f : α → List Ob → R β) : R β := match r with
  | .ok a o => f a o
  | .exc e o => .exc e o
  | .bad => .bad
def bndS {α : Type} (r : R α) (σ : Sg) (f : α → List Ob → SR) : SR := match r with
  | .ok a o => f a o
  | .exc e o => .exc e σ o
  | .bad => .bad
def okO {α : Type} (a : Option α) (o : List Ob) : R α := match a with
  | some a => .ok a o
  | none => .bad
def asW (r : R Val) : R W := bnd r fun v o => okO (settle v) o
def asT (r : R Val) : R Bool := bnd r fun v o => okO (truth v) o
def opD2 (f : D → D → Option Val) (x y : W) (o : List Ob) : R Val := match view o x, view o y with
  | some p, some q => okO (f p q) o
  | _, _ => .bad
def opD1 (f : D → Option Val) (x : W) (o : List Ob) : R Val := match view o x with
  | some p => okO (f p) o
  | none => .bad
def opDs (f : List D → Option Val) (ws : List W) (o : List Ob) : R Val := match viewAll o ws with
  | some ds => okO (f ds) o
  | none => .bad
def augR (op : Operator) (x y : W) (o : List Ob) : R Val := match x, y with
  | .d (.int i), .d (.int j) => match op with
    | .Add => .ok (wd (.int (i + j))) o
    | .Sub => .ok (wd (.int (i - j))) o
    | _ => .bad
  | _, _ => .bad
def tupR (ws : List W) (o : List Ob) : R Val := match allD ws with
  | some xs => if ws.length ≤ line then .ok (wd (.tup xs)) o else .bad
  | none => .bad
def lstR (ws : List W) (o : List Ob) : R Val := if ws.length ≤ line then .ok (.fl ws) o else .bad
def iscW (neg : Bool) (d : D) (x : W) (o : List Ob) : R Val := match x with
  | .d p => okO ((iscD p d).map fun k => wd (.bl (if neg then !k else k))) o
  | .loc _ => match d with
    | .non => .ok (wd (.bl neg)) o
    | _ => .bad
def idxR (x y : W) (o : List Ob) : R Val := match view o y with
  | some k => okO ((idxW o x k).map .w) o
  | none => .bad
def partW (b : Bool) (w : W) : Option (Option Int) := if b then match w with
  | .d (.int i) => some (some i)
  | _ => none else some none
def slR (x : W) (l h : Option Int) (o : List Ob) : R Val := match view o x with
  | some p => okO (slD p l h) o
  | none => .bad
def allocR (v : Val) (o : List Ob) : R Val := match v with
  | .fl ws => .ok (.w (.loc o.length)) (o ++ [.lst ws])
  | .w _ => .bad
/-- a list (true) | a tuple -/
def kindW (o : List Ob) : W → Option Bool
  | .d (.tup _) => some false
  | .d (.lst _) => some true
  | .loc n => match o[n]? with
    | some (.lst _) => some true
    | _ => none
  | _ => none
def mthR (m : Nat) (k : Bool) (x : W) (ws : List W) (o : List Ob) : R Val := match view o x, viewAll o ws with
  | some (.lst xs), some ds => if k then okO (mthD m xs ds) o else .bad
  | some (.tup xs), some ds => if k then .bad else okO (mthD m xs ds) o
  | _, _ => .bad
def mutR (m : Nat) (x : W) (ws : List W) (o : List Ob) : R Val := match x with
  | .loc n => mutW m n ws o
  | .d _ => .bad
def ofR (w : W) (o : List Ob) : R Itr := if (kindW o w).isSome then .ok (oneI w) o else .bad
def rangeR (ws : List W) (o : List Ob) : R Itr := match ws with
  | [.d (.int j)] => if rngOk j then .ok (rngI 0 j.toNat) o else .bad
  | [.d (.int i), .d (.int j)] => if rngOk i && rngOk j then .ok (rngI i (j - i).toNat) o else .bad
  | _ => .bad
def enumR (w : W) (o : List Ob) : R Itr := if (kindW o w).isSome then .ok (enumI w) o else .bad
def zipR (x y : W) (o : List Ob) : R Itr := if (kindW o x).isSome && kindW o x == kindW o y then .ok (zipI x y) o else .bad
def rngsD (lo : Int) (n : Nat) : List D := (List.range n).map fun i => .int (lo + (i : Nat))
/-- list(range(..)), tuple(range(..)) -/
def collR (b : Nat) (ws : List W) (o : List Ob) : R Val :=
  let go := fun (lo : Int) (n : Nat) => if n ≤ line then (if b = Bi.tup then .ok (wd (.tup (rngsD lo n))) o else if b = Bi.lst then .ok (flD (rngsD lo n)) o else .bad) else .bad
  match ws with
  | [.d (.int j)] => if rngOk j then go 0 j.toNat else .bad
  | [.d (.int i), .d (.int j)] => if rngOk i && rngOk j then go i (j - i).toNat else .bad
  | _ => .bad
def bindR (t : T) (x : Item) (σ : Sg) (o : List Ob) : SR := match bindT t x σ with
  | some σ1 => .next σ1 o
  | none => .bad
def oS (σ : Sg) : Option (List Ob) → SR
  | some o => .next σ o
  | none => .bad
def raiseS (cx : Cx) (c : Nat) (σ : Sg) (ws : List W) (o : List Ob) : SR := match cx.tab.cl c, allD ws with
  | some { ex := some fs, .. }, some ds => if ds.length = fs.length then .exc ⟨c, fs.zip ds⟩ σ o else .bad
  | _, _ => .bad
def isiW (T : Nat) (x : W) (o : List Ob) : R Val := match view o x with
  | some d => okO ((isiD T d).map fun k => wd (.bl k)) o
  | none => match x with
    | .loc n => match o[n]? with
      | some (.lst _) => .ok (wd (.bl (T == Bi.isLst))) o
      | some (.ins _ _) => .ok (wd (.bl false)) o
      | _ => .bad
    | _ => .bad
def isoD (c : Nat) (x : D) : Option Bool := match x with
  | .non => some false
  | .bl _ => some false
  | .int _ => some false
  | .str _ => some false
  | .tup _ => some false
  | .lst _ => some false
  | .obj c' _ => some (c' == c)
  | .dct _ => some false
  | _ => none
def isoW (c : Nat) (x : W) (o : List Ob) : R Val := match x with
  | .d x => okO ((isoD c x).map fun k => wd (.bl k)) o
  | .loc n => match o[n]? with
    | some (.lst _) => .ok (wd (.bl false)) o
    | some (.ins c' _) => .ok (wd (.bl (c' == c))) o
    | _ => .bad
/-- no class has an own == -/
def cx0 : Cx := ⟨⟨fun _ => none, fun _ => none, fun _ _ => false, fun _ => none⟩, fun _ _ _ _ => .bad, 0, none, none⟩
/-! ### the evaluator -/
mutual
def evE (cx : Cx) : E → Sg → List Ob → R Val
  | .c d, _, o => .ok (.w (.d d)) o
  | .gc _ d, _, o => .ok (.w (.d d)) o
  | .gf x, _, o => .ok (.w (.d (.glo x))) o
  | .var i, σ, o => match σ[i]? with
    | some (some w) => .ok (.w w) o
    | _ => .bad
  | .bin op a b, σ, o => bnd (asW (evE cx a σ o)) fun x o1 => bnd (asW (evE cx b σ o1)) fun y o2 => opD2 (binD op) x y o2
  | .neg a, σ, o => bnd (asW (evE cx a σ o)) fun x o1 => opD1 (fun p => (negD p).map wd) x o1
  | .cmp op a b, σ, o => bnd (asW (evE cx a σ o)) fun x o1 => bnd (asW (evE cx b σ o1)) fun y o2 => cmpW cx op x y o2
  | .cmpp op a b, σ, o => bnd (asW (evE cx a σ o)) fun x o1 => bnd (asW (evE cx b σ o1)) fun y o2 => cmpW cx0 op x y o2
  | .chain op op' a b c, σ, o => bnd (asW (evE cx a σ o)) fun x o1 => bnd (asW (evE cx b σ o1)) fun y o2 => bnd (asT (cmpW cx op x y o2)) fun k o3 =>
      if k then bnd (asW (evE cx c σ o3)) fun z o4 => cmpW cx op' y z o4 else .ok (wd (.bl false)) o3
  | .isc neg a d, σ, o => bnd (asW (evE cx a σ o)) fun x o1 => iscW neg d x o1
  | .and a b, σ, o => bnd (asT (evE cx a σ o)) fun k o1 => if k then bnd (asT (evE cx b σ o1)) fun k' o2 => .ok (wd (.bl k')) o2 else .ok (wd (.bl false)) o1
  | .or a b, σ, o => bnd (asT (evE cx a σ o)) fun k o1 => if k then .ok (wd (.bl true)) o1 else bnd (asT (evE cx b σ o1)) fun k' o2 => .ok (wd (.bl k')) o2
  | .not a, σ, o => bnd (asT (evE cx a σ o)) fun k o1 => .ok (wd (.bl (!k))) o1
  | .ite c a b, σ, o => bnd (asT (evE cx c σ o)) fun k o1 => if k then evE cx a σ o1 else evE cx b σ o1
  | .tup as, σ, o => bnd (evA cx as σ o) fun ws o1 => tupR ws o1
  | .lst as, σ, o => bnd (evA cx as σ o) fun ws o1 => lstR ws o1
  | .alloc e, σ, o => bnd (evE cx e σ o) allocR
  | .comp own t it test elt, σ, o => bnd (evI cx it σ o) fun f o1 =>
      bnd (compG (fun x o => match bindT t x (killAll σ own) with
            | some σ1 => bnd (asT (evE cx test σ1 o)) fun k o2 => if k then bnd (asW (evE cx elt σ1 o2)) fun w o3 => .ok [w] (keep o.length w o3) else .ok [] (o2.take o.length)
            | none => .bad) f cx.wf 0 [] o1) fun ws o2 => .ok (.fl ws) o2
  | .comp2 own own1 t it test t1 it1 test1 elt, σ, o => bnd (evI cx it σ o) fun f o1 =>
      bnd (compG (fun x o => match bindT t x (killAll σ own) with
            | some σ1 => bnd (asT (evE cx test σ1 o)) fun k o2 => if k then bnd (evI cx it1 σ1 o2) fun f1 o3 =>
                bnd (compG (fun x o => match bindT t1 x (killAll σ1 own1) with
                  | some σ2 => bnd (asT (evE cx test1 σ2 o)) fun k o2 => if k then bnd (asW (evE cx elt σ2 o2)) fun w o3 => .ok [w] (keep o.length w o3) else .ok [] (o2.take o.length)
                  | none => .bad) f1 cx.wf 0 [] o3) fun ws o4 => .ok ws o4 else .ok [] (o2.take o.length)
            | none => .bad) f cx.wf 0 [] o1) fun ws o2 => .ok (.fl ws) o2
  | .idx a i, σ, o => bnd (asW (evE cx a σ o)) fun x o1 => bnd (asW (evE cx i σ o1)) fun y o2 => idxR x y o2
  | .sl bl bh a lo hi, σ, o => bnd (asW (evE cx a σ o)) fun x o1 => bnd (asW (evE cx lo σ o1)) fun y o2 => bnd (okO (partW bl y) o2) fun l o3 => bnd (asW (evE cx hi σ o3)) fun z o4 => bnd (okO (partW bh z) o4) fun h o5 => slR x l h o5
  | .rev a, σ, o => bnd (asW (evE cx a σ o)) fun x o1 => opD1 revD x o1
  | .attr a f, σ, o => bnd (asW (evE cx a σ o)) fun x o1 => okO ((attrW o1 x f).map .w) o1
  | .call f as, σ, o => bnd (evA cx as σ o) fun ws o1 => cx.cal f none ws o1
  | .mk c as, σ, o => bnd (evA cx as σ o) fun ws o1 => mkR cx c ws o1
  | .bi b as, σ, o => bnd (evA cx as σ o) fun ws o1 => opDs (biD b) ws o1
  | .isi T a, σ, o => bnd (asW (evE cx a σ o)) fun x o1 => isiW T x o1
  | .iso c a, σ, o => bnd (asW (evE cx a σ o)) fun x o1 => isoW c x o1
  | .coll b as, σ, o => bnd (evA cx as σ o) fun ws o1 => collR b ws o1
  | .mth m r as, σ, o => bnd (asW (evE cx r σ o)) fun x o1 => match kindW o1 x with
    | some k => bnd (evA cx as σ o1) fun ws o2 => mthR m k x ws o2
    | none => .bad
  | .mut m r as, σ, o => bnd (asW (evE cx r σ o)) fun x o1 => match kindW o1 x with
    | some true => bnd (evA cx as σ o1) fun ws o2 => mutR m x ws o2
    | _ => .bad
  | .lam f j q body, σ, o => match o[j]? with
    | some (.tab q') => if q' = q then cx.cal f (some fun o => evE cx body σ o) [] o else .bad
    | _ => .bad
  | .thk, _, o => match cx.thk with
    | some t => t o
    | none => .bad
  | .exis _ c, _, o => match cx.cur with
    | some e => .ok (wd (.bl (cx.tab.sub e.c c))) o
    | none => .bad
  | .exat _ f, _, o => match cx.cur with
    | some e => okO ((lookN f e.fs).map wd) o
    | none => .bad
def evA (cx : Cx) : A → Sg → List Ob → R (List W)
  | .nil, _, o => .ok [] o
  | .cons e r, σ, o => bnd (asW (evE cx e σ o)) fun w o1 => bnd (evA cx r σ o1) fun ws o2 => .ok (w :: ws) o2
def evI (cx : Cx) : I → Sg → List Ob → R Itr
  | .of e, σ, o => bnd (asW (evE cx e σ o)) fun w o1 => ofR w o1
  | .range as, σ, o => bnd (evA cx as σ o) fun ws o1 => rangeR ws o1
  | .enum e, σ, o => bnd (asW (evE cx e σ o)) fun w o1 => enumR w o1
  | .zip a b, σ, o => bnd (asW (evE cx a σ o)) fun x o1 => bnd (asW (evE cx b σ o1)) fun y o2 => zipR x y o2
  | .rev _, _, _ => .bad
  | .items _, _, _ => .bad
end
/-- a[i], b[j], .. = values, from the left -/
def storeAll : List ((Sg → List Ob → R Val) × (Sg → List Ob → R Val)) → List W → Sg → List Ob → SR
  | [], [], σ, o => .next σ o
  | (va, vb) :: rs, w :: ws, σ, o => bndS (asW (va σ o)) σ fun x o1 => bndS (asW (vb σ o1)) σ fun y o2 => match y with
    | .d k => match setiW o2 x k w with
      | some o3 => storeAll rs ws σ o3
      | none => .bad
    | .loc _ => .bad
  | _, _, _, _ => .bad
def evPs (cx : Cx) : A → A → List ((Sg → List Ob → R Val) × (Sg → List Ob → R Val))
  | .cons a ra, .cons i ri => (evE cx a, evE cx i) :: evPs cx ra ri
  | _, _ => []
mutual
def evS (cx : Cx) : S → Sg → List Ob → SR
  | .set i e, σ, o => bndS (asW (evE cx e σ o)) σ fun w o1 => .next (σ.set i (some w)) o1
  | .unp t e, σ, o => bndS (asW (evE cx e σ o)) σ fun w o1 => bindR t (.one w) σ o1
  | .par t as, σ, o => bndS (evA cx as σ o) σ fun ws o1 => match bindTs t ws σ with
    | some σ1 => .next σ1 o1
    | none => .bad
  | .seti a i e, σ, o => bndS (asW (evE cx e σ o)) σ fun w o1 => bndS (asW (evE cx a σ o1)) σ fun x o2 => bndS (asW (evE cx i σ o2)) σ fun y o3 => match y with
    | .d k => oS σ (setiW o3 x k w)
    | .loc _ => .bad
  | .seta a f e, σ, o => bndS (asW (evE cx e σ o)) σ fun w o1 => bndS (asW (evE cx a σ o1)) σ fun x o2 => oS σ (setaW o2 x f w)
  | .parS os is as, σ, o => bndS (evA cx as σ o) σ fun ws o2 => storeAll (evPs cx os is) ws σ o2
  | .aug i op e, σ, o => match σ[i]? with
    | some (some (.d (.int k))) => bndS (asW (evE cx e σ o)) σ fun w o1 => bndS (asW (augR op (.d (.int k)) w o1)) σ fun v o2 => .next (σ.set i (some v)) o2
    | _ => .bad
  | .augi a i op e, σ, o => bndS (asW (evE cx a σ o)) σ fun x o1 => bndS (asW (evE cx i σ o1)) σ fun y o2 => bndS (idxR x y o2) σ fun v o3 => match v with
    | .w (.d (.int k)) => bndS (asW (evE cx e σ o3)) σ fun w o4 => bndS (asW (augR op (.d (.int k)) w o4)) σ fun v o5 => match y with
      | .d k => oS σ (setiW o5 x k v)
      | .loc _ => .bad
    | _ => .bad
  | .auga _ _ _ _, _, _ => .bad
  | .ex e, σ, o => bndS (evE cx e σ o) σ fun _ o1 => .next σ o1
  | .ret e, σ, o => bndS (evE cx e σ o) σ fun v o1 => .ret v o1
  | .retN, _, o => .ret (.w (.d .non)) o
  | .ite c a b, σ, o => bndS (asT (evE cx c σ o)) σ fun k o1 => if k then evB cx a σ o1 else evB cx b σ o1
  | .for t it kill b, σ, o => bndS (evI cx it σ o) σ fun f o1 =>
      forG (fun x σ o2 => match bindT t x σ with
        | some σ1 => clean o1.length kill (evB cx b σ1 o2)
        | none => .bad) f cx.wf 0 σ o1
  | .while c kill b, σ, o => whileN (fun σ o => asT (evE cx c σ o)) (fun σ o1 => clean o.length kill (evB cx b σ o1)) cx.wf σ o
  | .raise c as, σ, o => bndS (evA cx as σ o) σ fun ws o1 => raiseS cx c σ ws o1
  | .try b c slot h, σ, o => match evB cx b σ o with
    | .exc x σ1 o1 => if cx.tab.sub x.c c then
        match slot with
        | some i => if i < σ1.length then match evB { cx with cur := some x } h (σ1.set i none) o1 with
            | .next σ3 o3 => .next (σ3.set i none) o3
            | .ret v o3 => .ret v o3
            | _ => .bad else .bad
        | none => match evB { cx with cur := none } h σ1 o1 with
            | .next σ3 o3 => .next σ3 o3
            | .ret v o3 => .ret v o3
            | _ => .bad
      else .exc x σ1 o1
    | r => r
  | .pass, σ, o => .next σ o
  | .brk, σ, o => .brk σ o
  | .cont, σ, o => .cont σ o
def evB (cx : Cx) : B → Sg → List Ob → SR
  | .nil, σ, o => .next σ o
  | .cons s r, σ, o => match evS cx s σ o with
    | .next σ1 o1 => evB cx r σ1 o1
    | x => x
end
/-! ### calls -/
def run (T : Tab) (wf : Nat) : Nat → Cal
  | 0, _, _, _, _ => .bad
  | d + 1, f, t, ws, o => match T.nat f with
    | some (k, F) => if k ≤ d then F ws o else .bad
    | none => match T.fn f with
      | some g => if ws.length = g.np then
          match evB ⟨T, run T wf d, wf, t, none⟩ g.body (ws.map some ++ List.replicate (g.ns - g.np) none) o with
          | .next _ o1 => .ok (.w (.d .non)) (o1.take o.length)
          | .ret v o1 => finish o.length v o1
          | .exc e _ o1 => .exc e (o1.take o.length)
          | _ => .bad
        else .bad
      | none => .bad
end Mi
end
section
set_option linter.all false
set_option Elab.async false
set_option maxHeartbeats 1000000
set_option autoImplicit false
namespace Mi
open PySem L2
/-! ### data and values of the hand layer -/
/-- the exception that a suite holds: its slot, where it lies, what it is -/
structure ErI where
  slot : Nat
  a : Addr
  x : Ex
  cls : Value
  d : Option Addr
structure Gx where
  K : PySem.W.Frag
  ga : Nat → Option Addr
  isC : Nat → Bool
  isE : Nat → Bool
  names : List Str
  av : List Addr := []
  tp : Nat → Addr := fun _ => 0
  dr : List D → List (Nat × Nat) → Prop := fun _ _ => False
  er : Option ErI := none
/-- a dict's keys -/
def keyD : D → Option Key
  | .int i => some (.inl i)
  | .str s => some (.inr s)
  | _ => none
def keysD : List D → Option (List Key)
  | [] => some []
  | x :: xs => match keyD x, keysD xs with
    | some k, some ks => some (k :: ks)
    | _, _ => none
def tkeyD : D → Option (List Key)
  | .tup xs => keysD xs
  | _ => none
def tkeysD : List D → Option (List (List Key))
  | [] => some []
  | x :: xs => match tkeyD x, tkeysD xs with
    | some k, some ks => some (k :: ks)
    | _, _ => none
/-- the keys ks with the values vs -/
def DctU (ks : List D) (vs : List V) (u : HO) : Prop := (∃ k, keysD ks = some k ∧ u = .dK (k.zip vs)) ∨ ∃ k, tkeysD ks = some k ∧ u = .dT (k.zip vs)
/-- what is told by what is in it -/
def Col : HO → Prop
  | .lst _ => True
  | .dK _ => True
  | .dT _ => True
  | _ => False
theorem DctU.col {ks : List D} {vs : List V} {u : HO} (h : DctU ks vs u) : Col u := by
  rcases h with ⟨k, _, rfl⟩ | ⟨k, _, rfl⟩ <;> trivial
mutual
inductive RD (G : Gx) (zs : List Addr) (H : Hp) : D → V → Prop
  | non : RD G zs H .non .non
  | bl (b : Bool) : RD G zs H (.bl b) (.bl b)
  | int (i : Int) : RD G zs H (.int i) (.int i)
  | str (s : Str) : RD G zs H (.str s) (.str s)
  | lst {a : Addr} {vs : List V} {xs : List D} : Rd H a (.lst vs) → (a ∉ zs ∧ a ∉ G.av) → RDs G zs H xs vs → RD G zs H (.lst xs) (.ref a)
  | tup {a : Addr} {ob : Obj} {vs : List V} {xs : List D} : H a = some (.frz ob (.tup vs)) → ob.dict = none → RDs G zs H xs vs → RD G zs H (.tup xs) (.ref a)
  | glo {x : Nat} {a : Addr} : G.ga x = some a → RD G zs H (.glo x) (.ref a)
  | obj {c : Nat} {fs : List (Nat × D)} {a C dx : Addr} {fv : List (Str × V)} : H a = some (.ins C dx fv) → (a ∉ zs ∧ a ∉ G.av) → G.ga c = some C ∧ G.isC c = true → RDf G zs H fs fv → RD G zs H (.obj c fs) (.ref a)
  | dct {a : Addr} {u : HO} {kvs : List (D × D)} {vs : List V} : H a = some u → (a ∉ zs ∧ a ∉ G.av) → DctU (kvs.map (·.1)) vs u → RDs G zs H (kvs.map (·.2)) vs → RD G zs H (.dct kvs) (.ref a)
inductive RDs (G : Gx) (zs : List Addr) (H : Hp) : List D → List V → Prop
  | nil : RDs G zs H [] []
  | cons {x : D} {v : V} {xs : List D} {vs : List V} : RD G zs H x v → RDs G zs H xs vs → RDs G zs H (x :: xs) (v :: vs)
inductive RDf (G : Gx) (zs : List Addr) (H : Hp) : List (Nat × D) → List (Str × V) → Prop
  | nil : RDf G zs H [] []
  | cons {k : Nat} {n : Str} {x : D} {v : V} {fs : List (Nat × D)} {fv : List (Str × V)} : G.names[k]? = some n → RD G zs H x v → RDf G zs H fs fv → RDf G zs H ((k, x) :: fs) ((n, v) :: fv)
end
/-- what may change: lists, dicts, objects, tables of code objects -/
def Mut : Option HO → Prop
  | some (.lst _) => True
  | some (.dK _) => True
  | some (.dT _) => True
  | some (.set _ _) => True
  | some (.ins _ _ _) => True
  | some (.tbl _) => True
  | _ => False
theorem tab_keep {H H' : Hp} {a : Addr} {q : Str} (t : LamX.TabS H a q) (h1 : ∀ u, H a = some u → H' a = some u) (h2 : ∀ c f, H c = some (.ext f) → H' c = some (.ext f)) : LamX.TabS H' a q := by
  obtain ⟨ps, e1, e2, e3⟩ := t
  refine ⟨ps, h1 _ e1, e2, fun pos cv hc => ?_⟩
  obtain ⟨c, e4, e5⟩ := e3 pos cv hc
  exact ⟨c, e4, h2 c _ e5⟩
/-- what may change, changes; all else stays -/
structure Stp (zs : List Addr) (H : Hp) (zs' : List Addr) (H' : Hp) : Prop where
  ext : ∀ a o, H a = some o → a ∉ zs → H' a = some o
  zz : ∀ a ∈ zs', a ∈ zs ∨ H a = none
  gr : ∀ a o, H a = some o → ∃ o', H' a = some o'
def Zm (zs : List Addr) (H : Hp) : Prop := ∀ a ∈ zs, Mut (H a)
theorem Stp.refl {zs : List Addr} {H : Hp} : Stp zs H zs H := ⟨fun _ _ h _ => h, fun _ h => .inl h, fun _ o h => ⟨o, h⟩⟩
theorem Stp.back {zs zs' : List Addr} {H H' : Hp} (s : Stp zs H zs' H') {a : Addr} (h : H' a = none) : H a = none := by
  cases q : H a with
  | none => rfl
  | some o =>
    obtain ⟨o', e⟩ := s.gr a o q
    rw [h] at e; cases e
theorem Stp.trans {z1 z2 z3 : List Addr} {H1 H2 H3 : Hp} (a : Stp z1 H1 z2 H2) (b : Stp z2 H2 z3 H3) : Stp z1 H1 z3 H3 where
  ext := fun x o h n => b.ext x o (a.ext x o h n) fun m => by
    rcases a.zz x m with q | q
    · exact n q
    · rw [h] at q; cases q
  zz := fun x m => by
    rcases b.zz x m with q | q
    · exact a.zz x q
    · exact .inr (a.back q)
  gr := fun x o h => by
    obtain ⟨o', e⟩ := a.gr x o h
    exact b.gr x o' e
theorem Stp.notin {zs zs' : List Addr} {H H' : Hp} (s : Stp zs H zs' H') {a : Addr} {o : HO} (h : H a = some o) (n : a ∉ zs) : a ∉ zs' := fun m => by
  rcases s.zz a m with q | q
  · exact n q
  · rw [h] at q; cases q
theorem Stp.sub {zs z1 z2 : List Addr} {H H' : Hp} (s : Stp zs H z1 H') (h : ∀ a ∈ z2, a ∈ z1) : Stp zs H z2 H' := ⟨s.ext, fun a m => s.zz a (h a m), s.gr⟩
theorem Stp.rd {zs zs' : List Addr} {H H' : Hp} (s : Stp zs H zs' H') {a : Addr} {u : HO} (h : Rd H a u) (n : a ∉ zs) : Rd H' a u ∧ a ∉ zs' := by
  rcases h with h | ⟨o, h⟩
  · exact ⟨.inl (s.ext a _ h n), s.notin h n⟩
  · exact ⟨.inr ⟨o, s.ext a _ h n⟩, s.notin h n⟩
theorem zm_frz {zs : List Addr} {H : Hp} (z : Zm zs H) {a : Addr} {ob : Obj} {u : HO} (h : H a = some (.frz ob u)) : a ∉ zs := fun m => by
  have q := z a m
  rw [h] at q; exact q
section
variable {G : Gx} {zs zs' : List Addr} {H H' : Hp}
mutual
theorem RD.step (s : Stp zs H zs' H') (z : Zm zs H) : ∀ {x : D} {v : V}, RD G zs H x v → RD G zs' H' x v
  | _, _, .non => .non
  | _, _, .bl b => .bl b
  | _, _, .int i => .int i
  | _, _, .str x => .str x
  | _, _, .lst h n r => .lst (s.rd h n.1).1 ⟨(s.rd h n.1).2, n.2⟩ (RDs.step s z r)
  | _, _, .tup h d r => .tup (s.ext _ _ h (zm_frz z h)) d (RDs.step s z r)
  | _, _, .glo h => .glo h
  | _, _, .obj h n c r => .obj (s.ext _ _ h n.1) ⟨s.notin h n.1, n.2⟩ c (RDf.step s z r)
  | _, _, .dct h n d r => .dct (s.ext _ _ h n.1) ⟨s.notin h n.1, n.2⟩ d (RDs.step s z r)
theorem RDs.step (s : Stp zs H zs' H') (z : Zm zs H) : ∀ {xs : List D} {vs : List V}, RDs G zs H xs vs → RDs G zs' H' xs vs
  | _, _, .nil => .nil
  | _, _, .cons h r => .cons (RD.step s z h) (RDs.step s z r)
theorem RDf.step (s : Stp zs H zs' H') (z : Zm zs H) : ∀ {xs : List (Nat × D)} {vs : List (Str × V)}, RDf G zs H xs vs → RDf G zs' H' xs vs
  | _, _, .nil => .nil
  | _, _, .cons k h r => .cons k (RD.step s z h) (RDf.step s z r)
end
mutual
theorem RD.less (h : ∀ a ∈ zs', a ∈ zs) : ∀ {x : D} {v : V}, RD G zs H x v → RD G zs' H x v
  | _, _, .non => .non
  | _, _, .bl b => .bl b
  | _, _, .int i => .int i
  | _, _, .str x => .str x
  | _, _, .lst a n r => .lst a ⟨fun m => n.1 (h _ m), n.2⟩ (RDs.less h r)
  | _, _, .tup a d r => .tup a d (RDs.less h r)
  | _, _, .glo a => .glo a
  | _, _, .obj a n c r => .obj a ⟨fun m => n.1 (h _ m), n.2⟩ c (RDf.less h r)
  | _, _, .dct a n d r => .dct a ⟨fun m => n.1 (h _ m), n.2⟩ d (RDs.less h r)
theorem RDs.less (h : ∀ a ∈ zs', a ∈ zs) : ∀ {xs : List D} {vs : List V}, RDs G zs H xs vs → RDs G zs' H xs vs
  | _, _, .nil => .nil
  | _, _, .cons a r => .cons (RD.less h a) (RDs.less h r)
theorem RDf.less (h : ∀ a ∈ zs', a ∈ zs) : ∀ {xs : List (Nat × D)} {vs : List (Str × V)}, RDf G zs H xs vs → RDf G zs' H xs vs
  | _, _, .nil => .nil
  | _, _, .cons k a r => .cons k (RD.less h a) (RDf.less h r)
end
theorem RDs.length : ∀ {xs : List D} {vs : List V}, RDs G zs H xs vs → xs.length = vs.length
  | _, _, .nil => rfl
  | _, _, .cons _ r => congrArg (· + 1) (RDs.length r)
theorem RDs.append : ∀ {xs : List D} {vs : List V} {ys : List D} {us : List V}, RDs G zs H xs vs → RDs G zs H ys us → RDs G zs H (xs ++ ys) (vs ++ us)
  | _, _, _, _, .nil, s => s
  | _, _, _, _, .cons h r, s => .cons h (RDs.append r s)
theorem RDs.get : ∀ {xs : List D} {vs : List V}, RDs G zs H xs vs → ∀ {i : Nat} {x : D}, xs[i]? = some x → ∃ v, vs[i]? = some v ∧ RD G zs H x v
  | _, _, .nil, i, x, e => by simp at e
  | _, _, .cons h r, 0, x, e => by simp at e; subst e; exact ⟨_, rfl, h⟩
  | _, _, .cons h r, i + 1, x, e => by
    obtain ⟨v, e1, e2⟩ := RDs.get r (i := i) (x := x) (by simpa using e)
    exact ⟨v, by simpa using e1, e2⟩
end
/-- an exception -/
def RX (G : Gx) (zs : List Addr) (e : Ex) (cls : Value) (d : Option Addr) (H' : Hp) : Prop :=
  ∃ C, (G.ga e.c = some C ∧ G.isE e.c = true) ∧ cls = .ref C ∧ ((e.fs = [] ∧ d = none) ∨ ∃ dx fv, d = some dx ∧ H' dx = some (.xd fv) ∧ RDf G zs H' e.fs fv)
section
variable {G : Gx} {zs zs' : List Addr} {H H' : Hp}
theorem zm_xd (z : Zm zs H) {a : Addr} {u : List (Str × V)} (h : H a = some (.xd u)) : a ∉ zs := fun m => by
  have q := z a m
  rw [h] at q; exact q
theorem RX.step {e : Ex} {cls : Value} {d : Option Addr} (s : Stp zs H zs' H') (z : Zm zs H) (x : RX G zs e cls d H) : RX G zs' e cls d H' := by
  obtain ⟨C, h1, h2, h3⟩ := x
  refine ⟨C, h1, h2, ?_⟩
  rcases h3 with h3 | ⟨dx, fv, h4, h5, h6⟩
  · exact .inl h3
  · exact .inr ⟨dx, fv, h4, s.ext _ _ h5 (zm_xd z h5), RDf.step s z h6⟩
theorem RX.less {e : Ex} {cls : Value} {d : Option Addr} (h : ∀ a ∈ zs', a ∈ zs) (x : RX G zs e cls d H) : RX G zs' e cls d H := by
  obtain ⟨C, h1, h2, h3⟩ := x
  refine ⟨C, h1, h2, ?_⟩
  rcases h3 with h3 | ⟨dx, fv, h4, h5, h6⟩
  · exact .inl h3
  · exact .inr ⟨dx, fv, h4, h5, RDf.less h h6⟩
end
/-! ### values with lists of the store -/
section
variable (G : Gx) (ρ zs : List Addr) (H : Hp)
def RW : W → V → Prop
  | .d x, v => RD G zs H x v
  | .loc n, v => ∃ a, ρ[n]? = some a ∧ v = .ref a
abbrev RWs : List W → List V → Prop := Paired (RW G ρ zs H)
def RWf : List (Nat × W) → List (Str × V) → Prop := Paired fun p q => G.names[p.1]? = some q.1 ∧ RW G ρ zs H p.2 q.2
def locOk (n : Nat) : W → Prop
  | .d _ => True
  | .loc k => k < n
def ROb (n : Nat) (a : Addr) : Ob → Prop
  | .lst ws => ∃ vs, H a = some (.lst vs) ∧ RWs G ρ zs H ws vs ∧ ∀ w ∈ ws, locOk n w
  | .ins c fs => ∃ C dx fv, H a = some (.ins C dx fv) ∧ (G.ga c = some C ∧ G.isC c = true) ∧ RWf G ρ zs H fs fv ∧ ∀ p ∈ fs, locOk n p.2
  | .dct kvs => ∃ vs u, RWs G ρ zs H (kvs.map (·.2)) vs ∧ (∀ p ∈ kvs, locOk n p.2) ∧ DctU (kvs.map (·.1)) vs u ∧ H a = some u
  | .dead => False
  | .tab q => a = G.tp n ∧ LamX.TabS H a q
  | .ora ds => ∃ xs vs, H a = some (.lst vs) ∧ RDs G zs H xs vs ∧ G.dr xs ds
structure Obs (o : List Ob) : Prop where
  sub : ∀ a ∈ ρ, a ∈ zs
  nd : ρ.Nodup
  len : ρ.length = o.length
  zm : Zm zs H
  ob : ∀ n b a, o[n]? = some b → ρ[n]? = some a → ROb G ρ zs H n a b
  av : ∀ a ∈ G.av, Mut (H a) ∧ a ∉ zs
  er : ∀ e, G.er = some e → RX G zs e.x e.cls e.d H
structure Sl (τ : Sg) (σ : L2.St) : Prop where
  len : τ.length = σ.length
  at_ : ∀ (i : Nat) (w : W), τ[i]? = some (some w) → ∃ v, σ[i]? = some (some v) ∧ RW G ρ zs H w v
  er : ∀ e, G.er = some e → σ[e.slot]? = some (some (.ref e.a))
end
section
variable {G : Gx} {ρ ρ' zs zs' : List Addr} {H H' : Hp}
theorem pre_get {α : Type} {l l' : List α} (p : l <+: l') {n : Nat} {a : α} (h : l[n]? = some a) : l'[n]? = some a := by
  obtain ⟨t, rfl⟩ := p
  rw [List.getElem?_append_left (List.getElem?_eq_some_iff.mp h).1]
  exact h
theorem RW.step (p : ρ <+: ρ') (s : Stp zs H zs' H') (z : Zm zs H) : ∀ {w : W} {v : V}, RW G ρ zs H w v → RW G ρ' zs' H' w v
  | .d _, _, h => RD.step s z h
  | .loc _, _, ⟨a, e, q⟩ => ⟨a, pre_get p e, q⟩
theorem RWs.step (p : ρ <+: ρ') (s : Stp zs H zs' H') (z : Zm zs H) : ∀ {ws : List W} {vs : List V}, RWs G ρ zs H ws vs → RWs G ρ' zs' H' ws vs
  | _, _, .nil => .nil
  | _, _, .cons h r => .cons (RW.step p s z h) (RWs.step p s z r)
theorem RW.less (h : ∀ a ∈ zs', a ∈ zs) : ∀ {w : W} {v : V}, RW G ρ zs H w v → RW G ρ zs' H w v
  | .d _, _, x => RD.less h x
  | .loc _, _, x => x
theorem RWs.less (h : ∀ a ∈ zs', a ∈ zs) : ∀ {ws : List W} {vs : List V}, RWs G ρ zs H ws vs → RWs G ρ zs' H ws vs
  | _, _, .nil => .nil
  | _, _, .cons x r => .cons (RW.less h x) (RWs.less h r)
theorem RWs.length {ws : List W} {vs : List V} (r : RWs G ρ zs H ws vs) : ws.length = vs.length := Paired.length r
theorem Sl.step {τ : Sg} {σ : L2.St} (p : ρ <+: ρ') (s : Stp zs H zs' H') (z : Zm zs H) (l : Sl G ρ zs H τ σ) : Sl G ρ' zs' H' τ σ := ⟨l.len, fun i w e => by
  obtain ⟨v, e1, e2⟩ := l.at_ i w e
  exact ⟨v, e1, e2.step p s z⟩, l.er⟩
theorem Sl.less {τ : Sg} {σ : L2.St} (h : ∀ a ∈ zs', a ∈ zs) (l : Sl G ρ zs H τ σ) : Sl G ρ zs' H τ σ := ⟨l.len, fun i w e => by
  obtain ⟨v, e1, e2⟩ := l.at_ i w e
  exact ⟨v, e1, e2.less h⟩, l.er⟩
theorem Sl.set {τ : Sg} {σ : L2.St} {w : W} {v : V} (i : Nat) (hi : ∀ e, G.er = some e → e.slot ≠ i) (l : Sl G ρ zs H τ σ) (r : RW G ρ zs H w v) : Sl G ρ zs H (τ.set i (some w)) (σ.set i (some v)) := ⟨by simpa using l.len, fun j u e => by
  by_cases hj : i = j
  · subst hj
    by_cases hi : i < τ.length
    · rw [List.getElem?_set_self hi] at e
      cases e
      exact ⟨v, List.getElem?_set_self (by rw [← l.len]; exact hi), r⟩
    · rw [List.getElem?_eq_none (by simpa using hi)] at e; cases e
  · rw [List.getElem?_set_ne hj] at e ⊢
    exact l.at_ j u e, fun e he => by rw [List.getElem?_set_ne (fun z => hi e he z.symm)]; exact l.er e he⟩
theorem RWf.step (p : ρ <+: ρ') (s : Stp zs H zs' H') (z : Zm zs H) : ∀ {ws : List (Nat × W)} {vs : List (Str × V)}, RWf G ρ zs H ws vs → RWf G ρ' zs' H' ws vs
  | _, _, .nil => .nil
  | _, _, .cons h r => .cons ⟨h.1, RW.step p s z h.2⟩ (RWf.step p s z r)
theorem RWf.less (h : ∀ a ∈ zs', a ∈ zs) : ∀ {ws : List (Nat × W)} {vs : List (Str × V)}, RWf G ρ zs H ws vs → RWf G ρ zs' H ws vs
  | _, _, .nil => .nil
  | _, _, .cons x r => .cons ⟨x.1, RW.less h x.2⟩ (RWf.less h r)
theorem rws_to {G' : Gx} {n : Nat} (hw : ∀ w v, locOk n w → RW G ρ zs H w v → RW G' ρ' zs' H' w v) : ∀ {ws : List W} {vs : List V}, (∀ w ∈ ws, locOk n w) → RWs G ρ zs H ws vs → RWs G' ρ' zs' H' ws vs
  | _, _, _, .nil => .nil
  | _, _, hl, .cons h r => .cons (hw _ _ (hl _ List.mem_cons_self) h) (rws_to hw (fun w m => hl w (List.mem_cons_of_mem _ m)) r)
theorem rwf_to {G' : Gx} {n : Nat} (hn : G'.names = G.names) (hw : ∀ w v, locOk n w → RW G ρ zs H w v → RW G' ρ' zs' H' w v) : ∀ {ws : List (Nat × W)} {vs : List (Str × V)}, (∀ w ∈ ws, locOk n w.2) → RWf G ρ zs H ws vs → RWf G' ρ' zs' H' ws vs
  | _, _, _, .nil => .nil
  | _, _, hl, .cons h r => .cons ⟨by rw [hn]; exact h.1, hw _ _ (hl _ List.mem_cons_self) h.2⟩ (rwf_to hn hw (fun w m => hl w (List.mem_cons_of_mem _ m)) r)
theorem rds_to {G' : Gx} (hw : ∀ x v, RD G zs H x v → RD G' zs' H' x v) : ∀ {xs : List D} {vs : List V}, RDs G zs H xs vs → RDs G' zs' H' xs vs
  | _, _, .nil => .nil
  | _, _, .cons h r => .cons (hw _ _ h) (rds_to hw r)
/-- a tracked object seen elsewhere -/
theorem ROb.to {G' : Gx} {n : Nat} {a : Addr} (hH : ∀ u, H a = some u → H' a = some u) (hw : ∀ w v, locOk n w → RW G ρ zs H w v → RW G' ρ' zs' H' w v) (ht : ∀ q, LamX.TabS H a q → LamX.TabS H' a q)
    (ga : G'.ga = G.ga) (ic : G'.isC = G.isC) (nm : G'.names = G.names) (tp : G'.tp = G.tp) (dr : G'.dr = G.dr) : ∀ {b : Ob}, ROb G ρ zs H n a b → ROb G' ρ' zs' H' n a b
  | .lst _, ⟨vs, e, r, l⟩ => ⟨vs, hH _ e, rws_to hw l r, l⟩
  | .ins _ _, ⟨C, dx, fv, e, c, r, l⟩ => ⟨C, dx, fv, hH _ e, by rw [ga, ic]; exact c, rwf_to nm hw l r, l⟩
  | .dct _, ⟨vs, u, r, l, d, e⟩ => ⟨vs, u, rws_to hw (fun w m => by
      obtain ⟨p, hp, rfl⟩ := List.mem_map.mp m
      exact l p hp) r, l, d, hH _ e⟩
  | .tab _, t => ⟨by rw [tp]; exact t.1, ht _ t.2⟩
  | .ora _, ⟨xs, vs, e, r, d⟩ => ⟨xs, vs, hH _ e, rds_to (fun x v h => hw (.d x) v trivial h) r, by rw [dr]; exact d⟩
theorem ROb.less {n : Nat} {a : Addr} (h : ∀ a ∈ zs', a ∈ zs) {b : Ob} (r : ROb G ρ zs H n a b) : ROb G ρ zs' H n a b := r.to (fun _ e => e) (fun _ _ _ r => r.less h) (fun _ t => t) rfl rfl rfl rfl rfl
theorem Obs.less {o : List Ob} (h : ∀ a ∈ zs', a ∈ zs) (hs : ∀ a ∈ ρ, a ∈ zs') (b : Obs G ρ zs H o) : Obs G ρ zs' H o :=
  ⟨hs, b.nd, b.len, fun a m => b.zm a (h a m), fun n u a e q => (b.ob n u a e q).less h, fun a m => ⟨(b.av a m).1, fun z => (b.av a m).2 (h a z)⟩, fun e he => (b.er e he).less h⟩
theorem mem_of_get {α : Type} {l : List α} {n : Nat} {a : α} (h : l[n]? = some a) : a ∈ l := List.mem_of_getElem? h
/-- new tracked things, nothing changed -/
theorem Obs.grow {o : List Ob} (b : Obs G ρ zs H o) (s : Stp zs H zs H') (k : ∀ a u, H a = some u → H' a = some u) : Obs G ρ zs H' o := by
  have mk : ∀ a, Mut (H a) → Mut (H' a) := fun a q => by
    cases e : H a with
    | none => rw [e] at q; exact q.elim
    | some u => rw [e] at q; rw [k a u e]; exact q
  refine ⟨b.sub, b.nd, b.len, fun a m => ?_, fun n u a e q => ?_, fun a m => ⟨mk a (b.av a m).1, (b.av a m).2⟩, fun e he => (b.er e he).step s b.zm⟩
  · have q := b.zm a m
    cases e : H a with
    | none => rw [e] at q; exact q.elim
    | some u => rw [e] at q; rw [k a u e]; exact q
  · exact (b.ob n u a e q).to (fun u e => k _ _ e) (fun _ _ _ r => r.step List.prefix_rfl s b.zm) (fun _ t => tab_keep t (fun u e => k _ _ e) (fun c f e => k _ _ e)) rfl rfl rfl rfl rfl
theorem Stp.new {p : Addr} {o : HO} (h : H p = none) : Stp zs H zs (upd H p o) := ⟨fun a u e _ => by rw [upd_ne (ne_of_none e h)]; exact e, fun _ m => .inl m, fun a u e => ⟨u, by rw [upd_ne (ne_of_none e h)]; exact e⟩⟩
theorem keepN {p : Addr} {o : HO} (h : H p = none) : ∀ a u, H a = some u → upd H p o a = some u := fun a u e => by rw [upd_ne (ne_of_none e h)]; exact e
theorem Zm.fresh (z : Zm zs H) {p : Addr} (h : H p = none) : p ∉ zs := fun m => by
  have q := z p m
  rw [h] at q; exact q
end
/-! ### what is told behind an expression -/
section
variable (G : Gx) (ρ : List Addr) (H : Hp)
/-- behind an expression that gives val, o' -/
def PostV (val : Val) (o' : List Ob) (v : V) (H' : Hp) : Prop :=
  ∃ ρ', ρ <+: ρ' ∧ match val with
    | .w w => Stp ρ H ρ' H' ∧ Obs G ρ' ρ' H' o' ∧ RW G ρ' ρ' H' w v
    | .fl ws => ∃ a vs, v = .ref a ∧ a ∉ ρ' ∧ H' a = some (.lst vs) ∧ Stp ρ H (a :: ρ') H' ∧ Obs G ρ' (a :: ρ') H' o' ∧ RWs G ρ' (a :: ρ') H' ws vs
def PostW (w : W) (o' : List Ob) (v : V) (H' : Hp) : Prop :=
  ∃ ρ', ρ <+: ρ' ∧ Stp ρ H ρ' H' ∧ Obs G ρ' ρ' H' o' ∧ RW G ρ' ρ' H' w v
def PostA (ws : List W) (o' : List Ob) (vs : List V) (H' : Hp) : Prop :=
  ∃ ρ', ρ <+: ρ' ∧ Stp ρ H ρ' H' ∧ Obs G ρ' ρ' H' o' ∧ RWs G ρ' ρ' H' ws vs
def Post0 (o' : List Ob) (H' : Hp) : Prop := ∃ ρ', ρ <+: ρ' ∧ Stp ρ H ρ' H' ∧ Obs G ρ' ρ' H' o'
def PostN (τ' : Sg) (o' : List Ob) (σ' : L2.St) (H' : Hp) : Prop :=
  ∃ ρ', ρ <+: ρ' ∧ Stp ρ H ρ' H' ∧ Obs G ρ' ρ' H' o' ∧ Sl G ρ' ρ' H' τ' σ'
def PostX (e : Ex) (o' : List Ob) (cls : Value) (d : Option Addr) (H' : Hp) : Prop :=
  ∃ ρ', ρ <+: ρ' ∧ Stp ρ H ρ' H' ∧ Obs G ρ' ρ' H' o' ∧ RX G ρ' e cls d H'
end
abbrev RdE := Sg → List Ob → R Val
/-- of what is given, P; of what is raised, the wish -/
def RP {α : Type} (G : Gx) (Wx : WX) (ρ : List Addr) (H : Hp) (σ : L2.St) (P : α → List Ob → Prop) (r : R α) : Prop := match r with
  | .ok a o => P a o
  | .exc e o => ∀ cls d H', PostX G ρ H e o cls d H' → Wx cls d σ H'
  | .bad => False
/-- the reading of an expression: the evaluator's word -/
def tE (G : Gx) (Wx : WX) (r : Sg → List Ob → R Val) : TE := fun σ H Q => ∃ ρ τ o, Obs G ρ ρ H o ∧ Sl G ρ ρ H τ σ ∧ RP G Wx ρ H σ (fun val o' => ∀ v H', PostV G ρ H val o' v H' → Q v H') (r τ o)
def tW (G : Gx) (Wx : WX) (r : Sg → List Ob → R W) : TE := fun σ H Q => ∃ ρ τ o, Obs G ρ ρ H o ∧ Sl G ρ ρ H τ σ ∧ RP G Wx ρ H σ (fun val o' => ∀ v H', PostW G ρ H val o' v H' → Q v H') (r τ o)
def tT (G : Gx) (Wx : WX) (r : Sg → List Ob → R Bool) : TT := fun σ H Q => ∃ ρ τ o, Obs G ρ ρ H o ∧ Sl G ρ ρ H τ σ ∧ RP G Wx ρ H σ (fun k o' => ∀ H', Post0 G ρ H o' H' → Q k H') (r τ o)
def tA (G : Gx) (Wx : WX) (r : Sg → List Ob → R (List W)) : TA := fun σ H Q => ∃ ρ τ o, Obs G ρ ρ H o ∧ Sl G ρ ρ H τ σ ∧ RP G Wx ρ H σ (fun ws o' => ∀ vs H', PostA G ρ H ws o' vs H' → Q vs H') (r τ o)
def PostXS (G : Gx) (ρ : List Addr) (H : Hp) (e : Ex) (τ' : Sg) (o' : List Ob) (cls : Value) (d : Option Addr) (σ' : L2.St) (H' : Hp) : Prop :=
  ∃ ρ', ρ <+: ρ' ∧ Stp ρ H ρ' H' ∧ Obs G ρ' ρ' H' o' ∧ Sl G ρ' ρ' H' τ' σ' ∧ RX G ρ' e cls d H'
def SP (G : Gx) (Wx : WX) (ρ : List Addr) (H : Hp) (D : Ends) (r : SR) : Prop := match r with
  | .next τ' o' => ∀ σ' H', PostN G ρ H τ' o' σ' H' → D.nx σ' H'
  | .ret val o' => ∀ v H', PostV G ρ H val o' v H' → D.rt v H'
  | .brk τ' o' => ∀ σ' H', PostN G ρ H τ' o' σ' H' → D.bk σ' H'
  | .cont τ' o' => ∀ σ' H', PostN G ρ H τ' o' σ' H' → D.ct σ' H'
  | .exc e τ' o' => ∀ cls d σ' H', PostXS G ρ H e τ' o' cls d σ' H' → Wx cls d σ' H'
  | .bad => False
def tS (G : Gx) (Wx : WX) (r : Sg → List Ob → SR) : TS := fun D σ H => ∃ ρ τ o, Obs G ρ ρ H o ∧ Sl G ρ ρ H τ σ ∧ SP G Wx ρ H D (r τ o)
section
variable {X : L2.Cx}
/-- a reading may be weakened -/
theorem PE.weak {e : Expr} {t t' : TE} (h : PE X e t) (w : ∀ σ H Q, t' σ H Q → t σ H Q) : PE X e t' := ⟨fun pins s σ H Q I q => h.run pins s σ H Q I (w σ H Q q)⟩
theorem PT.weak {e : Expr} {t t' : TT} (h : PT X e t) (w : ∀ σ H Q, t' σ H Q → t σ H Q) : PT X e t' := ⟨fun pins s σ H Q I q => h.run pins s σ H Q I (w σ H Q q)⟩
theorem PW.weak {e : Expr} {t t' : TT} (h : PW X e t) (w : ∀ σ H Q, t' σ H Q → t σ H Q) : PW X e t' := ⟨fun wh pins s σ H Q I q => h.run wh pins s σ H Q I (w σ H Q q)⟩
theorem PA.weak {e : List Expr} {t t' : TA} (h : PA X e t) (w : ∀ σ H Q, t' σ H Q → t σ H Q) : PA X e t' := ⟨fun pos pins s σ H Q I q => h.run pos pins s σ H Q I (w σ H Q q)⟩
theorem PS.weak {e : Stmt} {t t' : TS} (h : PS X e t) (w : ∀ D σ H, t' D σ H → t D σ H) : PS X e t' := ⟨fun pins s σ H D I q => h.run pins s σ H D I (w D σ H q)⟩
theorem PSs.weak {e : List Stmt} {t t' : TS} (h : PSs X e t) (w : ∀ D σ H, t' D σ H → t D σ H) : PSs X e t' := ⟨fun pins s σ H D I q => h.run pins s σ H D I (w D σ H q)⟩
end
end Mi
end
section
set_option linter.all false
set_option Elab.async false
set_option maxHeartbeats 1000000
set_option autoImplicit false
namespace Mi
open PySem L2
section
variable {G : Gx} {ρ ρ1 zs : List Addr} {H H1 H2 : Hp} {o o1 : List Ob}
/-! ### what is told, said of an earlier state -/
theorem PostV.lift {val : Val} {v : V} (p : ρ <+: ρ1) (s : Stp ρ H ρ1 H1) (h : PostV G ρ1 H1 val o v H2) : PostV G ρ H val o v H2 := by
  obtain ⟨ρ2, p2, h⟩ := h
  refine ⟨ρ2, p.trans p2, ?_⟩
  cases val with
  | w w => exact ⟨s.trans h.1, h.2⟩
  | fl ws =>
    obtain ⟨a, vs, e, n, ha, s2, r⟩ := h
    exact ⟨a, vs, e, n, ha, s.trans s2, r⟩
theorem PostW.lift {w : W} {v : V} (p : ρ <+: ρ1) (s : Stp ρ H ρ1 H1) (h : PostW G ρ1 H1 w o v H2) : PostW G ρ H w o v H2 := by
  obtain ⟨ρ2, p2, s2, r⟩ := h
  exact ⟨ρ2, p.trans p2, s.trans s2, r⟩
theorem PostA.lift {ws : List W} {vs : List V} (p : ρ <+: ρ1) (s : Stp ρ H ρ1 H1) (h : PostA G ρ1 H1 ws o vs H2) : PostA G ρ H ws o vs H2 := by
  obtain ⟨ρ2, p2, s2, r⟩ := h
  exact ⟨ρ2, p.trans p2, s.trans s2, r⟩
theorem Post0.lift (p : ρ <+: ρ1) (s : Stp ρ H ρ1 H1) (h : Post0 G ρ1 H1 o H2) : Post0 G ρ H o H2 := by
  obtain ⟨ρ2, p2, s2, r⟩ := h
  exact ⟨ρ2, p.trans p2, s.trans s2, r⟩
theorem PostN.lift {τ : Sg} {σ : L2.St} (p : ρ <+: ρ1) (s : Stp ρ H ρ1 H1) (h : PostN G ρ1 H1 τ o σ H2) : PostN G ρ H τ o σ H2 := by
  obtain ⟨ρ2, p2, s2, r⟩ := h
  exact ⟨ρ2, p.trans p2, s.trans s2, r⟩
theorem PostX.lift {e : Ex} {c : Value} {d : Option Addr} (p : ρ <+: ρ1) (s : Stp ρ H ρ1 H1) (h : PostX G ρ1 H1 e o c d H2) : PostX G ρ H e o c d H2 := by
  obtain ⟨ρ2, p2, s2, r⟩ := h
  exact ⟨ρ2, p.trans p2, s.trans s2, r⟩
/-! ### settled values -/
theorem rds_of : ∀ {ws : List W} {vs : List V} {xs : List D}, allD ws = some xs → RWs G ρ zs H ws vs → RDs G zs H xs vs
  | [], _, _, e, .nil => by cases e; exact .nil
  | .d x :: ws, _, xs, e, .cons h r => by
    cases q : allD ws with
    | none => simp [allD, q] at e
    | some ys =>
      simp [allD, q] at e; subst e
      exact .cons h (rds_of q r)
  | .loc _ :: _, _, _, e, _ => by cases e
theorem rws_of {ρ' : List Addr} : ∀ {xs : List D} {vs : List V}, RDs G zs H xs vs → RWs G ρ' zs H (xs.map .d) vs
  | _, _, .nil => .nil
  | _, _, .cons h r => .cons h (rws_of r)
theorem settle_ok {val : Val} {w : W} {v : V} (e : settle val = some w) (h : PostV G ρ H val o v H1) : PostW G ρ H w o v H1 := by
  obtain ⟨ρ', p, h⟩ := h
  cases val with
  | w u => cases e; exact ⟨ρ', p, h⟩
  | fl ws =>
    obtain ⟨a, vs, rfl, n, ha, s, b, r⟩ := h
    cases q : allD ws with
    | none => simp [settle, q] at e
    | some xs =>
      simp [settle, q] at e; subst e
      have sub : ∀ c ∈ ρ', c ∈ a :: ρ' := fun c m => List.mem_cons_of_mem _ m
      exact ⟨ρ', p, s.sub sub, b.less sub (fun _ m => m), .lst (.inl ha) ⟨n, fun m => (b.av a m).2 (by simp)⟩ (rds_of q (r.less sub))⟩
theorem Post0.of_same {ρ' : List Addr} (p : ρ <+: ρ') (s : Stp ρ H ρ' H1) (b : Obs G ρ' ρ' H1 o) : Post0 G ρ H o H1 := ⟨ρ', p, s, b⟩
/-- an answer that makes nothing -/
theorem post_same {d : D} {v : V} (b : Obs G ρ ρ H o) (r : RD G ρ H d v) : PostV G ρ H (.w (.d d)) o v H := ⟨ρ, List.prefix_rfl, Stp.refl, b, r⟩
/-- a new tuple -/
theorem post_tup {p : Addr} {ob : Obj} {xs : List D} {vs : List V} (b : Obs G ρ ρ H o) (hp : H p = none) (hd : ob.dict = none) (r : RDs G ρ H xs vs) : PostV G ρ H (.w (.d (.tup xs))) o (.ref p) (upd H p (.frz ob (.tup vs))) := by
  have s : Stp ρ H ρ (upd H p (.frz ob (.tup vs))) := Stp.new hp
  exact ⟨ρ, List.prefix_rfl, s, b.grow s (keepN hp), .tup upd_same hd (r.step s b.zm)⟩
/-- a new list -/
theorem Obs.more {a : Addr} (b : Obs G ρ zs H o) (hx : ∀ e, G.er = some e → RX G (a :: zs) e.x e.cls e.d H) (na : a ∉ G.av) (h : Mut (H a)) (r : ∀ (n : Nat) (u : Ob) (c : Addr), o[n]? = some u → ρ[n]? = some c → ROb G ρ (a :: zs) H n c u) : Obs G ρ (a :: zs) H o :=
  ⟨fun c m => List.mem_cons_of_mem _ (b.sub c m), b.nd, b.len, fun c m => by
    rcases List.mem_cons.mp m with e | m
    · rw [e]; exact h
    · exact b.zm c m, r, fun c m => ⟨(b.av c m).1, fun z => by
    rcases List.mem_cons.mp z with e | z
    · exact na (e ▸ m)
    · exact (b.av c m).2 z⟩, hx⟩
theorem Stp.newL {p : Addr} {u : HO} (h : H p = none) : Stp zs H (p :: zs) (upd H p u) := ⟨fun a x e _ => by rw [upd_ne (ne_of_none e h)]; exact e, fun a m => by
    rcases List.mem_cons.mp m with e | m
    · rw [e]; exact .inr h
    · exact .inl m, fun a x e => ⟨x, by rw [upd_ne (ne_of_none e h)]; exact e⟩⟩
theorem obs_newL {p : Addr} {vs : List V} (b : Obs G ρ ρ H o) (hp : H p = none) : Obs G ρ (p :: ρ) (upd H p (.lst vs)) o := by
  have s : Stp ρ H (p :: ρ) (upd H p (.lst vs)) := Stp.newL hp
  have b1 := b.grow (Stp.new (zs := ρ) (o := .lst vs) hp) (keepN hp)
  refine b1.more (fun e he => (b.er e he).step s b.zm) (fun m => by have q := (b.av p m).1; rw [hp] at q; exact q) (by rw [upd_same]; trivial) fun n u c e q => ?_
  exact (b.ob n u c e q).to (fun u e => keepN hp _ _ e) (fun _ _ _ r => r.step List.prefix_rfl s b.zm) (fun _ t => tab_keep t (fun u e => keepN hp _ _ e) (fun c f e => keepN hp _ _ e)) rfl rfl rfl rfl rfl
theorem post_lstW {p : Addr} {ws : List W} {vs : List V} (b : Obs G ρ ρ H o) (hp : H p = none) (r : RWs G ρ ρ H ws vs) : PostV G ρ H (.fl ws) o (.ref p) (upd H p (.lst vs)) :=
  ⟨ρ, List.prefix_rfl, p, vs, rfl, b.zm.fresh hp, upd_same, Stp.newL hp, obs_newL b hp, r.step List.prefix_rfl (Stp.newL hp) b.zm⟩
theorem post_lst {p : Addr} {xs : List D} {vs : List V} (b : Obs G ρ ρ H o) (hp : H p = none) (r : RDs G ρ H xs vs) : PostV G ρ H (flD xs) o (.ref p) (upd H p (.lst vs)) := post_lstW b hp (rws_of r)
theorem sqT_frz {K : PySem.W.Frag} {H : Hp} {a : Addr} {ob : Obj} {vs : List V} (h : H a = some (.frz ob (.tup vs))) : SqT K H a vs := .inl (.inr ⟨ob, h⟩)
/-- a new tuple's object -/
abbrev TupO (its : List Value) : Obj := { cls := .type "tuple", data := .seq its.toArray }
theorem Inv.newT {X : L2.Cx} {pins : List (Addr × Obj)} {σ : L2.St} {H : Hp} {s : Shared} {ys : List V} {its : List Value} {t' : Nat} (I : Inv X pins σ H s) (r : Vals ys its) (hz : ys.length ≤ sizeLine) :
    Inv X pins σ (upd H s.heap.objs.size (.frz (TupO its) (.tup ys))) { s with heap := s.heap.push (TupO its), toks := t' } :=
  I.laid (t' := t') (fun _ _ e => Heap.get?_push_of_some _ e) (Nat.le_refl _) ⟨Heap.get?_push_size _ rfl, hz, its, r, ⟨_, Heap.get?_push_size _ rfl, rfl, _, rfl⟩⟩
/-! ### views -/
/-- data as it stands: the top may be a list of the store -/
def VD (G : Gx) (ρ : List Addr) (H : Hp) (x : D) (v : V) : Prop := match x with
  | .lst xs => ∃ a vs, v = .ref a ∧ Rd H a (.lst vs) ∧ RDs G ρ H xs vs
  | .dct kvs => ∃ a vs u, v = .ref a ∧ H a = some u ∧ DctU (kvs.map (·.1)) vs u ∧ RDs G ρ H (kvs.map (·.2)) vs
  | x => RD G ρ H x v
abbrev VDs (G : Gx) (ρ : List Addr) (H : Hp) : List D → List V → Prop := Paired (VD G ρ H)
theorem VD.of {x : D} {v : V} (h : RD G ρ H x v) : VD G ρ H x v := by
  cases h with
  | lst a n r => exact ⟨_, _, rfl, a, r⟩
  | non => exact .non
  | bl b => exact .bl b
  | int i => exact .int i
  | str s => exact .str s
  | tup a d r => exact .tup a d r
  | glo a => exact .glo a
  | obj a n c r => exact .obj a n c r
  | dct a n d r => exact ⟨_, _, _, rfl, a, d, r⟩
theorem rkv_of : ∀ {kvs : List (D × W)} {xs : List (D × D)}, allDkv kvs = some xs → xs.map (·.1) = kvs.map (·.1) ∧ allD (kvs.map (·.2)) = some (xs.map (·.2))
  | [], _, e => by cases e; exact ⟨rfl, rfl⟩
  | (k, .d x) :: kvs, xs, e => by
    cases q : allDkv kvs with
    | none => simp [allDkv, q] at e
    | some ys =>
      simp [allDkv, q] at e; subst e
      obtain ⟨h1, h2⟩ := rkv_of q
      exact ⟨by simp [h1], by simp [allD, h2]⟩
  | (_, .loc _) :: _, _, e => by simp [allDkv] at e
theorem view_ok {w : W} {x : D} {v : V} (b : Obs G ρ ρ H o) (e : view o w = some x) (r : RW G ρ ρ H w v) : VD G ρ H x v := by
  cases w with
  | d y => cases e; exact .of r
  | loc n =>
    obtain ⟨a, ea, rfl⟩ := r
    cases q : o[n]? with
    | none => simp [view, q] at e
    | some u =>
      have rb := b.ob n u a q ea
      cases u with
      | lst ws =>
        obtain ⟨vs, ha, rw, _⟩ := rb
        cases z : allD ws with
        | none => simp [view, q, z] at e
        | some xs =>
          simp [view, q, z] at e; subst e
          exact ⟨a, vs, rfl, .inl ha, rds_of z rw⟩
      | dct kvs =>
        obtain ⟨vs, u, rw, _, hd, hu⟩ := rb
        cases z : allDkv kvs with
        | none => simp [view, q, z] at e
        | some xs =>
          simp [view, q, z] at e; subst e
          obtain ⟨h1, h2⟩ := rkv_of z
          exact ⟨a, vs, u, rfl, hu, by rw [h1]; exact hd, rds_of h2 rw⟩
      | ins _ _ => simp [view, q] at e
      | dead => exact rb.elim
      | tab _ => simp [view, q] at e
      | ora _ => simp [view, q] at e
theorem viewAll_ok (b : Obs G ρ ρ H o) : ∀ {ws : List W} {xs : List D} {vs : List V}, viewAll o ws = some xs → RWs G ρ ρ H ws vs → VDs G ρ H xs vs
  | [], _, _, e, .nil => by cases e; exact .nil
  | w :: ws, xs, _, e, .cons h r => by
    cases q : view o w with
    | none => simp [viewAll, q] at e
    | some x =>
      cases z : viewAll o ws with
      | none => simp [viewAll, q, z] at e
      | some ys =>
        simp [viewAll, q, z] at e; subst e
        exact .cons (view_ok b q h) (viewAll_ok b z r)
/-! ### one after another -/
theorem PostXS.lift {e : Ex} {τ : Sg} {σ : L2.St} {c : Value} {d : Option Addr} (p : ρ <+: ρ1) (s : Stp ρ H ρ1 H1) (h : PostXS G ρ1 H1 e τ o c d σ H2) : PostXS G ρ H e τ o c d σ H2 := by
  obtain ⟨ρ2, p2, s2, r⟩ := h
  exact ⟨ρ2, p.trans p2, s.trans s2, r⟩
variable {Wx : WX}
section
variable {α β : Type} {σ : L2.St} {P P' : α → List Ob → Prop}
theorem RP.lift {r : R α} (h : RP G Wx ρ H σ P r) (p : ρ <+: ρ1) (s : Stp ρ H ρ1 H1) (w : ∀ a o, P a o → P' a o) : RP G Wx ρ1 H1 σ P' r := by
  cases r with
  | ok a o => exact w a o h
  | exc e o => exact fun c d H' q => h c d H' (q.lift p s)
  | bad => exact h
theorem RP.mono {r : R α} (h : RP G Wx ρ H σ P r) (w : ∀ a o, P a o → P' a o) : RP G Wx ρ H σ P' r := h.lift List.prefix_rfl Stp.refl w
theorem RP.bnd {r : R α} {f : α → List Ob → R β} {Q : β → List Ob → Prop} (h : RP G Wx ρ H σ Q (bnd r f)) : RP G Wx ρ H σ (fun a o => RP G Wx ρ H σ Q (f a o)) r := by
  cases r with
  | ok a o => exact h
  | exc e o => exact h
  | bad => exact h
theorem RP.okO {a : Option α} (h : RP G Wx ρ H σ P (okO a o)) : ∃ x, a = some x ∧ P x o := by
  cases a with
  | none => exact False.elim h
  | some x => exact ⟨x, rfl, h⟩
end
section
variable {σ : L2.St}
theorem tW.mono {r : Sg → List Ob → R W} {Q Q' : VK} (h : tW G Wx r σ H Q) (w : ∀ v H', Q v H' → Q' v H') : tW G Wx r σ H Q' := by
  obtain ⟨ρ, τ, o, b, l, h⟩ := h
  exact ⟨ρ, τ, o, b, l, h.mono fun _ _ q v H' hp => w v H' (q v H' hp)⟩
theorem tA.mono {r : Sg → List Ob → R (List W)} {Q Q' : List V → Hp → Prop} (h : tA G Wx r σ H Q) (w : ∀ v H', Q v H' → Q' v H') : tA G Wx r σ H Q' := by
  obtain ⟨ρ, τ, o, b, l, h⟩ := h
  exact ⟨ρ, τ, o, b, l, h.mono fun _ _ q v H' hp => w v H' (q v H' hp)⟩
theorem tT.mono {r : Sg → List Ob → R Bool} {Q Q' : Bool → Hp → Prop} (h : tT G Wx r σ H Q) (w : ∀ v H', Q v H' → Q' v H') : tT G Wx r σ H Q' := by
  obtain ⟨ρ, τ, o, b, l, h⟩ := h
  exact ⟨ρ, τ, o, b, l, h.mono fun _ _ q H' hp => w _ H' (q H' hp)⟩
theorem tE.mono {r : Sg → List Ob → R Val} {Q Q' : VK} (h : tE G Wx r σ H Q) (w : ∀ v H', Q v H' → Q' v H') : tE G Wx r σ H Q' := by
  obtain ⟨ρ, τ, o, b, l, h⟩ := h
  exact ⟨ρ, τ, o, b, l, h.mono fun _ _ q v H' hp => w v H' (q v H' hp)⟩
/-- where an operation stands: the store, the values, what is wanted -/
structure At (G : Gx) (σ : L2.St) (ρ : List Addr) (H : Hp) (o : List Ob) (τ : Sg) : Prop where
  ob : Obs G ρ ρ H o
  sl : Sl G ρ ρ H τ σ
def WantV (G : Gx) (ρ : List Addr) (H : Hp) (Q : VK) (val : Val) (o' : List Ob) : Prop := ∀ v H', PostV G ρ H val o' v H' → Q v H'
theorem WantV.lift {Q : VK} {val : Val} (p : ρ <+: ρ1) (s : Stp ρ H ρ1 H1) (h : WantV G ρ H Q val o) : WantV G ρ1 H1 Q val o := fun v H' q => h v H' (q.lift p s)
variable {ra rb rc : Sg → List Ob → R W}
theorem tW_one {Q : VK} {f : Sg → W → List Ob → R Val} (h : tE G Wx (fun τ o => bnd (ra τ o) (f τ)) σ H Q) :
    tW G Wx ra σ H fun v H1 => ∃ ρ o τ w, At G σ ρ H1 o τ ∧ RW G ρ ρ H1 w v ∧ RP G Wx ρ H1 σ (WantV G ρ H1 Q) (f τ w o) := by
  obtain ⟨ρ, τ, o, b, l, h⟩ := h
  refine ⟨ρ, τ, o, b, l, h.bnd.mono fun w o1 q v H1 hp => ?_⟩
  obtain ⟨ρ1, p, s, b1, r⟩ := hp
  exact ⟨ρ1, o1, τ, w, ⟨b1, l.step p s b.zm⟩, r, q.lift p s fun _ _ q => WantV.lift p s q⟩
theorem tW_two {Q : VK} {f : Sg → W → W → List Ob → R Val} (h : tE G Wx (fun τ o => bnd (ra τ o) fun x o1 => bnd (rb τ o1) fun y o2 => f τ x y o2) σ H Q) :
    tW G Wx ra σ H fun v H1 => tW G Wx rb σ H1 fun u H2 => ∃ ρ o τ x y, At G σ ρ H2 o τ ∧ RW G ρ ρ H2 x v ∧ RW G ρ ρ H2 y u ∧ RP G Wx ρ H2 σ (WantV G ρ H2 Q) (f τ x y o) := by
  obtain ⟨ρ, τ, o, b, l, h⟩ := h
  refine ⟨ρ, τ, o, b, l, h.bnd.mono fun x o1 q v H1 hp => ?_⟩
  obtain ⟨ρ1, p, s, b1, r⟩ := hp
  refine ⟨ρ1, τ, o1, b1, l.step p s b.zm, q.bnd.lift p s fun y o2 q u H2 hp => ?_⟩
  obtain ⟨ρ2, p2, s2, b2, r2⟩ := hp
  exact ⟨ρ2, o2, τ, x, y, ⟨b2, l.step (p.trans p2) (s.trans s2) b.zm⟩, r.step p2 s2 b1.zm, r2, q.lift (p.trans p2) (s.trans s2) fun _ _ q => WantV.lift (p.trans p2) (s.trans s2) q⟩
theorem tA_one {Q : VK} {ra : Sg → List Ob → R (List W)} {f : Sg → List W → List Ob → R Val} (h : tE G Wx (fun τ o => bnd (ra τ o) (f τ)) σ H Q) :
    tA G Wx ra σ H fun vs H1 => ∃ ρ o τ ws, At G σ ρ H1 o τ ∧ RWs G ρ ρ H1 ws vs ∧ RP G Wx ρ H1 σ (WantV G ρ H1 Q) (f τ ws o) := by
  obtain ⟨ρ, τ, o, b, l, h⟩ := h
  refine ⟨ρ, τ, o, b, l, h.bnd.mono fun w o1 q v H1 hp => ?_⟩
  obtain ⟨ρ1, p, s, b1, r⟩ := hp
  exact ⟨ρ1, o1, τ, w, ⟨b1, l.step p s b.zm⟩, r, q.lift p s fun _ _ q => WantV.lift p s q⟩
end
variable {X : L2.Cx}
theorem pw_of {e : Expr} {r : RdE} (h : PE X e (tE G Wx r)) : PE X e (tW G Wx fun s o => asW (r s o)) := PE.weak h fun σ H Q ⟨ρ, τ, o, b, l, q⟩ => by
  refine ⟨ρ, τ, o, b, l, RP.mono (RP.bnd q) fun val o' q v H' hp => ?_⟩
  obtain ⟨w, e, q⟩ := RP.okO q
  exact q v H' (settle_ok e hp)
theorem truth_ok {val : Val} {k : Bool} {v : V} (e : truth val = some k) (h : PostV G ρ H val o v H1) : v = .bl k ∧ Post0 G ρ H o H1 := by
  obtain ⟨ρ', p, hp⟩ := h
  cases val with
  | fl ws => cases e
  | w w =>
    cases w with
    | loc n => cases e
    | d x =>
      cases x <;> first | cases e | skip
      obtain ⟨s, b', r'⟩ := hp
      cases r'
      exact ⟨rfl, ρ', p, s, b'⟩
theorem pt_of {e : Expr} {r : RdE} (h : PT X e (tTest (tE G Wx r))) : PT X e (tT G Wx fun s o => asT (r s o)) := PT.weak h fun σ H Q ⟨ρ, τ, o, b, l, q⟩ => by
  refine ⟨ρ, τ, o, b, l, RP.mono (RP.bnd q) fun val o' q v H' hp => ?_⟩
  obtain ⟨k, e, q⟩ := RP.okO q
  obtain ⟨rfl, h0⟩ := truth_ok e hp
  exact ⟨k, rfl, q H' h0⟩
end
end Mi
end
section
set_option linter.all false
set_option Elab.async false
set_option maxHeartbeats 1000000
set_option autoImplicit false
namespace Mi
open PySem L2
/-! ### operations by data -/
/-- a two-place operation by data -/
def rD2 (G : Gx) (f : D → D → Option Val) : R2 := fun x y H Q => ∃ ρ o p q val, Obs G ρ ρ H o ∧ VD G ρ H p x ∧ VD G ρ H q y ∧ f p q = some val ∧ WantV G ρ H Q val o
def rD1 (G : Gx) (f : D → Option Val) : V → Hp → VK → Prop := fun x H Q => ∃ ρ o p val, Obs G ρ ρ H o ∧ VD G ρ H p x ∧ f p = some val ∧ WantV G ρ H Q val o
def rDs (G : Gx) (f : List D → Option Val) : List V → Hp → VK → Prop := fun xs H Q => ∃ ρ o ds val, Obs G ρ ρ H o ∧ VDs G ρ H ds xs ∧ f ds = some val ∧ WantV G ρ H Q val o
section
variable {G : Gx} {ρ : List Addr} {H : Hp} {o : List Ob} {Q : VK} {x y : W} {v u : V} {σ : L2.St} {Wx : WX} {τ : Sg}
theorem opD2_ok {f : D → D → Option Val} (a : At G σ ρ H o τ) (rx : RW G ρ ρ H x v) (ry : RW G ρ ρ H y u) (h : RP G Wx ρ H σ (WantV G ρ H Q) (opD2 f x y o)) : rD2 G f v u H Q := by
  unfold opD2 at h
  cases vx : view o x with
  | none => simp only [vx] at h; exact h.elim
  | some p =>
    cases vy : view o y with
    | none => simp only [vx, vy] at h; exact h.elim
    | some q =>
      simp only [vx, vy] at h
      obtain ⟨val, e, w⟩ := RP.okO h
      exact ⟨ρ, o, p, q, val, a.ob, view_ok a.ob vx rx, view_ok a.ob vy ry, e, w⟩
theorem opD1_ok {f : D → Option Val} (a : At G σ ρ H o τ) (rx : RW G ρ ρ H x v) (h : RP G Wx ρ H σ (WantV G ρ H Q) (opD1 f x o)) : rD1 G f v H Q := by
  unfold opD1 at h
  cases vx : view o x with
  | none => simp only [vx] at h; exact h.elim
  | some p =>
    simp only [vx] at h
    obtain ⟨val, e, w⟩ := RP.okO h
    exact ⟨ρ, o, p, val, a.ob, view_ok a.ob vx rx, e, w⟩
theorem opDs_ok {f : List D → Option Val} {ws : List W} {vs : List V} (a : At G σ ρ H o τ) (r : RWs G ρ ρ H ws vs) (h : RP G Wx ρ H σ (WantV G ρ H Q) (opDs f ws o)) : rDs G f vs H Q := by
  unfold opDs at h
  cases vx : viewAll o ws with
  | none => simp only [vx] at h; exact h.elim
  | some ds =>
    simp only [vx] at h
    obtain ⟨val, e, w⟩ := RP.okO h
    exact ⟨ρ, o, ds, val, a.ob, viewAll_ok a.ob vx r, e, w⟩
end
section
variable {G : Gx} {X : L2.Cx} {Wx : WX} {pos : Pos} {a b c e : Expr} {ra rb rc : Sg → List Ob → R W}
theorem pe_D2 {op : Operator} {f : D → D → Option Val} (ho : OpR X (binaryOp op) (rD2 G f)) (ha : PE X a (tW G Wx ra)) (hb : PE X b (tW G Wx rb)) :
    PE X (.BinOp a op b pos) (tE G Wx fun τ o => bnd (ra τ o) fun x o1 => bnd (rb τ o1) fun y o2 => opD2 f x y o2) :=
  PE.weak (pe_op ho ha hb) fun σ H Q h => (tW_two (f := fun _ => opD2 f) h).mono fun _ _ h1 => h1.mono fun _ _ ⟨_, _, _, _, _, a, rx, ry, h2⟩ => opD2_ok a rx ry h2
theorem pe_D1 {op : UnaryOp} {f : D → Option Val} (ho : UnR X (unaryOp op) (rD1 G f)) (ha : PE X a (tW G Wx ra)) :
    PE X (.UnaryOp op a pos) (tE G Wx fun τ o => bnd (ra τ o) fun x o1 => opD1 f x o1) :=
  PE.weak (pe_un ho ha) fun σ H Q h => (tW_one (f := fun _ => opD1 f) h).mono fun _ _ ⟨_, _, _, _, a, rx, h2⟩ => opD1_ok a rx h2
/-- what a list in the heap is -/
theorem Inv.lstR {pins : List (Addr × Obj)} {σ : L2.St} {H : Hp} {s : Shared} {l : Addr} {xs : List V} (I : Inv X pins σ H s) (hH : Rd H l (.lst xs)) :
    xs.length ≤ sizeLine ∧ ∃ (its : List Value) (n : Nat), Vals xs its ∧ xs.length = its.length ∧ s.heap.get? l = some { cls := .type "list", data := .seq its.toArray n } := by
  obtain ⟨z, its, n, r, e⟩ := hH.ok I.hok
  exact ⟨z, its, n, r, r.length, e⟩
def rCatR : R2 := fun x y H Q => ∃ l b xs zs, x = .ref l ∧ y = .ref b ∧ Rd H l (.lst xs) ∧ Rd H b (.lst zs) ∧ xs.length + zs.length ≤ sizeLine ∧ ∀ p, H p = none → Q (.ref p) (upd H p (.lst (xs ++ zs)))
theorem op_catR : OpR X (binaryOp .Add) rCatR := by
  intro pins s σ H x y v u Q I rx ry h
  obtain ⟨l, b, xs, zs, rfl, rfl, hH, hB, hz, q⟩ := h
  cases rx
  cases ry
  obtain ⟨z, its, n, r, hl, e⟩ := Inv.lstR I hH
  obtain ⟨z2, its2, n2, r2, hl2, e2⟩ := Inv.lstR I hB
  refine PySem.P.add_list e e2 ?_ (by rw [List.size_toArray, List.size_toArray]; omega)
  have ea : its.toArray ++ its2.toArray = (its ++ its2).toArray := by simp
  rw [ea]
  exact ⟨.ref _, _, I.lnew (t' := s.toks) (r.append r2) (by rw [List.length_append]; omega), rfl, q _ I.fresh⟩
/-- t + u -/
def rCatF (K : PySem.W.Frag) : R2 := fun x y H Q => ∃ a b xs ys, x = .ref a ∧ y = .ref b ∧ SqT K H a xs ∧ SqT K H b ys ∧ xs.length + ys.length ≤ sizeLine ∧
  (xs = [] → Q (.ref b) H) ∧ (xs ≠ [] → ys = [] → Q (.ref a) H) ∧ (xs ≠ [] → ys ≠ [] → ∀ p ob, H p = none → ob.dict = none → Q (.ref p) (upd H p (.frz ob (.tup (xs ++ ys)))))
theorem op_catF : OpR X (binaryOp .Add) (rCatF X.K) := by
  intro pins s σ H x y v u Q I rx ry h
  obtain ⟨a, b, xs, ys, rfl, rfl, ha, hb, hz, q0, q1, q2⟩ := h
  cases rx
  cases ry
  obtain ⟨its, r1, p1, _⟩ := I.tuple ha
  obtain ⟨its2, r2, p2, _⟩ := I.tuple hb
  by_cases hx : xs = []
  · subst hx
    cases r1
    exact L2.cat_tup0 p1 p2 ⟨.ref b, H, I, rfl, q0 rfl⟩
  · refine HT.cat_tup p1 p2 (fun z => hx (r1.nil_iff.mp z)) (fun z => ⟨.ref a, H, I, rfl, q1 hx (r2.nil_iff.mp z)⟩) (fun z => ?_) (by rw [← r1.length, ← r2.length]; exact hz)
    exact ⟨.ref s.heap.objs.size, _, Inv.newT (t' := s.toks) I (r1.append r2) (by rw [List.length_append]; exact hz), rfl, q2 hx (fun w => z (r2.nil_iff.mpr w)) _ _ (I.hok.fresh (Nat.le_refl _)) rfl⟩
theorem line_eq : line = sizeLine := by rw [sizeLine_eq]; rfl
theorem op_addD (hK : X.K = G.K) : OpR X (binaryOp .Add) (rD2 G (binD .Add)) := by
  intro pins s σ H x y v u Q I rx ry h
  obtain ⟨ρ, o, p, q, val, b, hp, hq, e, w⟩ := h
  cases p with
  | int i =>
    cases q with
    | int j =>
      cases hp; cases hq
      simp [binD] at e; subst e
      exact op_add pins s σ H _ _ v u Q I rx ry ⟨i, j, rfl, rfl, w _ _ (post_same b (.int _))⟩
    | _ => simp [binD] at e
  | str i =>
    cases q with
    | str j =>
      cases hp; cases hq
      simp [binD] at e
      obtain ⟨hz, e⟩ := e
      subst e
      exact op_add_str pins s σ H _ _ v u Q I rx ry ⟨i, j, rfl, rfl, by rw [← line_eq]; exact hz, w _ _ (post_same b (.str _))⟩
    | _ => simp [binD] at e
  | tup i =>
    cases q with
    | tup j =>
      cases hp with
      | tup ha da ra =>
        cases hq with
        | tup hb db rb =>
          simp [binD] at e
          obtain ⟨hz, e⟩ := e
          subst e
          have l1 := ra.length
          have l2 := rb.length
          refine op_catF pins s σ H _ _ v u Q I rx ry ⟨_, _, _, _, rfl, rfl, sqT_frz ha, sqT_frz hb, by rw [← line_eq, ← l1, ← l2]; exact hz, fun z => ?_, fun z1 z2 => ?_, fun z1 z2 p ob hn hd => w _ _ (post_tup b hn hd (ra.append rb))⟩
          · subst z
            cases ra
            exact w _ _ (post_same b (.tup hb db rb))
          · subst z2
            cases rb
            rw [List.append_nil] at w
            exact w _ _ (post_same b (.tup ha da ra))
    | _ => simp [binD] at e
  | lst i =>
    cases q with
    | lst j =>
      obtain ⟨a1, vs1, rfl, h1, r1⟩ := hp
      obtain ⟨a2, vs2, rfl, h2, r2⟩ := hq
      simp [binD] at e
      obtain ⟨hz, e⟩ := e
      subst e
      have l1 := r1.length
      have l2 := r2.length
      exact op_catR pins s σ H _ _ v u Q I rx ry ⟨_, _, _, _, rfl, rfl, h1, h2, by rw [← line_eq, ← l1, ← l2]; exact hz, fun p hn => w _ _ (post_lst b hn (r1.append r2))⟩
    | _ => simp [binD] at e
  | _ => cases q <;> simp [binD] at e
end
end Mi
end
section
set_option linter.all false
set_option Elab.async false
set_option maxHeartbeats 4000000
set_option maxRecDepth 100000
set_option autoImplicit false
namespace L2
open PySem PySem.Spec PyProof.Rows
theorem tuple_mul1 (l : Addr) (items : Array Value) (n : Nat) (dd : Option Addr) (sl : Array (Option Value)) (x : Int) (u : Tok) (c0 : (decide (x < -(2 ^ 63)) || decide (x ≥ 2 ^ 63)) = false) (c1 : (items.isEmpty || x == 1) = true) :
    Meets (Builtin.«tuple.__mul__» ⟨[.ref l, .int x u], []⟩) (fun _ R s => s.heap.get? l = some { cls := .type "tuple", dict := dd, data := .seq items n, slots := sl } ∧
      R (.ok (.ret (Value.ref l))) s) :=
  .of_wp fun prog w A R s h => by
    obtain ⟨hp, g, d, tk, os⟩ := s
    obtain ⟨hl, h⟩ := h
    have f1 := AutoSeq1.idx_int
    wp_walk using wpAny_loadPart' hl
    repeat (first
      | (refine wpAny_ite_false (decide_eq_false (by rw [c0]; exact Bool.false_ne_true)) ?_; wp_walk using wpAny_loadPart' hl)
      | (refine wpAny_ite_true (decide_eq_true c1) ?_; wp_walk using wpAny_loadPart' hl))
    exact ⟨_, rfl, h⟩
theorem tuple_mul0 (l : Addr) (items : Array Value) (n : Nat) (dd : Option Addr) (sl : Array (Option Value)) (x : Int) (u : Tok) (c0 : (decide (x < -(2 ^ 63)) || decide (x ≥ 2 ^ 63)) = false) (c1 : (items.isEmpty || x == 1) = false) (c2 : (decide (x ≤ 0) || items.isEmpty) = true) :
    Meets (Builtin.«tuple.__mul__» ⟨[.ref l, .int x u], []⟩) (fun _ R s => s.heap.get? l = some { cls := .type "tuple", dict := dd, data := .seq items n, slots := sl } ∧
      R (.ok (.ret (Value.ref s.heap.objs.size))) { s with heap := s.heap.push { cls := Value.type "tuple", data := Data.seq #[] }, toks := s.toks }) :=
  .of_wp fun prog w A R s h => by
    obtain ⟨hp, g, d, tk, os⟩ := s
    obtain ⟨hl, h⟩ := h
    have f1 := AutoSeq1.idx_int
    wp_walk using wpAny_loadPart' hl
    repeat (first
      | (refine wpAny_ite_false (decide_eq_false (by rw [c0]; exact Bool.false_ne_true)) ?_; wp_walk using wpAny_loadPart' hl)
      | (refine wpAny_ite_false (decide_eq_false (by rw [c1]; exact Bool.false_ne_true)) ?_; wp_walk using wpAny_loadPart' hl)
      | (refine wpAny_ite_true (decide_eq_true c2) ?_; wp_walk using wpAny_loadPart' hl))
    exact ⟨_, rfl, h⟩
section
variable {X : Cx}
def rRepT1 (K : PySem.W.Frag) : R2 := fun x y H Q => ∃ l k xs, x = .ref l ∧ y = .int k ∧ SqT K H l xs ∧ (xs = [] ∨ k = 1) ∧ -(2 ^ 63) ≤ k ∧ k < 2 ^ 63 ∧ Q (.ref l) H
theorem op_repT1 : OpR X (binaryOp .Mult) (rRepT1 X.K) := by
  intro pins s σ H x y v u Q I rx ry h
  obtain ⟨l, k, xs, rfl, rfl, hT, hne, h1, h2, q⟩ := h
  cases rx
  obtain ⟨t, rfl⟩ := ry
  obtain ⟨its, r, ⟨⟨cls, dd, data, sl⟩, ho, hc, n, hd⟩, hs⟩ := I.tuple hT
  simp only at hc hd
  subst hc hd
  have hle : its.length = xs.length := r.length.symm
  have c0 : (decide (k < -(2 ^ 63)) || decide (k ≥ 2 ^ 63)) = false := by
    rw [decide_eq_false (by omega), decide_eq_false (by omega)] <;> rfl
  have c1 : (its.toArray.isEmpty || k == 1) = true := by
    rcases hne with e | e
    · subst e
      have : its = [] := List.eq_nil_of_length_eq_zero (by simpa using hle)
      subst this; rfl
    · subst e; simp
  refine wpAny_binaryOp_repeat_ref (T := "tuple") (U := "int") (by decide) ⟨_, ho, rfl⟩ (fun s' => typeIs_int s' k t) noFill_tuple_mul F.fills_int_mul F.slot_int_rmul repeat_tuple F.slot_int_index.lookup
    (call_meets F.slot_int_rmul (typeIs_int s k t) F.entry_int_rmul (F.args_int_rmul_2 _ _) (int_rmul_tuple k t l its.toArray n dd sl)
      ⟨ho, rfl, ⟨_, ho, rfl⟩, call_meets F.slot_tuple_mul ⟨_, ho, rfl⟩ F.entry_tuple_mul (F.args_tuple_mul_2 _ _) (tuple_mul1 l its.toArray n dd sl k t c0 c1) ⟨ho, ?_⟩⟩)
  exact ⟨.ref l, H, I, rfl, q⟩
def rRepT0 (K : PySem.W.Frag) : R2 := fun x y H Q => ∃ l k xs, x = .ref l ∧ y = .int k ∧ SqT K H l xs ∧ xs ≠ [] ∧ -(2 ^ 63) ≤ k ∧ k ≤ 0 ∧ ∀ p ob, H p = none → ob.dict = none → Q (.ref p) (upd H p (.frz ob (.tup [])))
theorem op_repT0 : OpR X (binaryOp .Mult) (rRepT0 X.K) := by
  intro pins s σ H x y v u Q I rx ry h
  obtain ⟨l, k, xs, rfl, rfl, hT, hne, h1, h2, q⟩ := h
  cases rx
  obtain ⟨t, rfl⟩ := ry
  obtain ⟨its, r, ⟨⟨cls, dd, data, sl⟩, ho, hc, n, hd⟩, hs⟩ := I.tuple hT
  simp only at hc hd
  subst hc hd
  have hle : its.length = xs.length := r.length.symm
  have hn : its ≠ [] := fun e => hne (by
    rw [e] at hle
    exact List.eq_nil_of_length_eq_zero hle.symm)
  have hi : its.toArray.isEmpty = false := by
    cases its with
    | nil => exact absurd rfl hn
    | cons a b => rfl
  have c0 : (decide (k < -(2 ^ 63)) || decide (k ≥ 2 ^ 63)) = false := by
    rw [decide_eq_false (by omega), decide_eq_false (by omega)] <;> rfl
  have c1 : (its.toArray.isEmpty || k == 1) = false := by
    rw [hi, Bool.false_or]
    exact beq_eq_false_iff_ne.mpr (by omega)
  have c2 : (decide (k ≤ 0) || its.toArray.isEmpty) = true := by
    rw [decide_eq_true h2] <;> rfl
  refine wpAny_binaryOp_repeat_ref (T := "tuple") (U := "int") (by decide) ⟨_, ho, rfl⟩ (fun s' => typeIs_int s' k t) noFill_tuple_mul F.fills_int_mul F.slot_int_rmul repeat_tuple F.slot_int_index.lookup
    (call_meets F.slot_int_rmul (typeIs_int s k t) F.entry_int_rmul (F.args_int_rmul_2 _ _) (int_rmul_tuple k t l its.toArray n dd sl)
      ⟨ho, rfl, ⟨_, ho, rfl⟩, call_meets F.slot_tuple_mul ⟨_, ho, rfl⟩ F.entry_tuple_mul (F.args_tuple_mul_2 _ _) (tuple_mul0 l its.toArray n dd sl k t c0 c1 c2) ⟨ho, ?_⟩⟩)
  exact ⟨.ref s.heap.objs.size, _, Mi.Inv.newT (its := []) (t' := s.toks) I .nil (Nat.zero_le _), rfl, q _ _ (I.hok.fresh (Nat.le_refl _)) rfl⟩
def rRepTG (K : PySem.W.Frag) : R2 := fun x y H Q => ∃ l k xs, x = .ref l ∧ y = .int k ∧ SqT K H l xs ∧ xs ≠ [] ∧ 2 ≤ k ∧ k < 2 ^ 63 ∧ xs.length * k.toNat ≤ sizeLine ∧ ∀ p ob, H p = none → ob.dict = none → Q (.ref p) (upd H p (.frz ob (.tup (List.replicate k.toNat xs).flatten)))
theorem op_repTG : OpR X (binaryOp .Mult) (rRepTG X.K) := by
  intro pins s σ H x y v u Q I rx ry h
  obtain ⟨l, k, xs, rfl, rfl, hT, hne, h1, h2, hz, q⟩ := h
  cases rx
  obtain ⟨t, rfl⟩ := ry
  obtain ⟨its, r, ⟨⟨cls, dd, data, sl⟩, ho, hc, n, hd⟩, hs⟩ := I.tuple hT
  simp only at hc hd
  subst hc hd
  have hle : its.length = xs.length := r.length.symm
  have hn : its ≠ [] := fun e => hne (by
    rw [e] at hle
    exact List.eq_nil_of_length_eq_zero hle.symm)
  have hi : its.toArray.isEmpty = false := by
    cases its with
    | nil => exact absurd rfl hn
    | cons a b => rfl
  have hsz0 : its.toArray.size = xs.length := by rw [List.size_toArray, hle]
  have hm : ((its.toArray.size : Nat) : Int) * k ≤ 16777216 := by
    rw [hsz0]
    have a1 : ((xs.length * k.toNat : Nat) : Int) ≤ ((16777216 : Nat) : Int) := by rw [sizeLine_eq] at hz; exact Int.ofNat_le.mpr hz
    rw [Int.natCast_mul] at a1
    have a2 : ((k.toNat : Nat) : Int) = k := by omega
    rw [a2] at a1
    exact a1
  have flen : (List.replicate k.toNat its).flatten.length ≤ sizeLine := by
    rw [PyProof.Rows.lm_len_rep_flat, hle, Nat.mul_comm]
    exact hz
  have c0 : (decide (k < -(2 ^ 63)) || decide (k ≥ 2 ^ 63)) = false := by
    rw [decide_eq_false (by omega), decide_eq_false (by omega)] <;> rfl
  have c1 : (its.toArray.isEmpty || k == 1) = false := by
    rw [hi, Bool.false_or]
    exact beq_eq_false_iff_ne.mpr (by omega)
  have c2 : (decide (k ≤ 0) || its.toArray.isEmpty) = false := by
    rw [hi, Bool.or_false]
    exact decide_eq_false (by omega)
  have c4 : Builtin.Tuple.tupleTooMany (((its.toArray.size : Nat) : Int) * k) = false := by
    unfold Builtin.Tuple.tupleTooMany
    rw [sizeLine_eq]
    exact decide_eq_false (by omega)
  refine wpAny_binaryOp_repeat_ref (T := "tuple") (U := "int") (by decide) ⟨_, ho, rfl⟩ (fun s' => typeIs_int s' k t) noFill_tuple_mul F.fills_int_mul F.slot_int_rmul repeat_tuple F.slot_int_index.lookup
    (call_meets F.slot_int_rmul (typeIs_int s k t) F.entry_int_rmul (F.args_int_rmul_2 _ _) (int_rmul_tuple k t l its.toArray n dd sl)
      ⟨ho, rfl, ⟨_, ho, rfl⟩, call_meets F.slot_tuple_mul ⟨_, ho, rfl⟩ F.entry_tuple_mul (F.args_tuple_mul_2 _ _) (tuple_mulW l its.toArray n dd sl k t c0 c1 c2 (by omega) c4 (by rw [size_rep, List.size_toArray]; exact flen)) ⟨ho, ?_⟩⟩)
  rw [size_rep]
  exact ⟨.ref s.heap.objs.size, _, Mi.Inv.newT (t' := s.toks) I (r.rep k.toNat) (by rw [PyProof.Rows.lm_len_rep_flat, Nat.mul_comm]; exact hz), rfl, q _ _ (I.hok.fresh (Nat.le_refl _)) rfl⟩
/-- list * int -/
def rRepR : R2 := fun x y H Q => ∃ l k xs, x = .ref l ∧ y = .int k ∧ Rd H l (.lst xs) ∧ -(2 ^ 63) ≤ k ∧ k < 2 ^ 63 ∧ xs.length * k.toNat ≤ sizeLine ∧
  ∀ p, H p = none → Q (.ref p) (upd H p (.lst (List.replicate k.toNat xs).flatten))
theorem op_repR : OpR X (binaryOp .Mult) rRepR := by
  intro pins s σ H x y v u Q I rx ry h
  obtain ⟨l, k, xs, rfl, rfl, hH, h1, h2, hz, q⟩ := h
  cases rx
  obtain ⟨t, rfl⟩ := ry
  obtain ⟨z, its, n, r, hl, e⟩ := Mi.Inv.lstR I hH
  have hlen : its.toArray.size * k.toNat ≤ sizeLine := by rw [List.size_toArray, ← hl]; exact hz
  have hcap : ¬ its.toArray.size * k.toNat > (2 ^ 63 - 1) / 8 := by
    have : (sizeLine : Nat) ≤ (2 ^ 63 - 1) / 8 := by decide
    omega
  have hfit : ¬ (!Builtin.List.listFitsIndex k) = true := by
    rw [fitsIndex_both h1 h2]
    exact Bool.false_ne_true
  have hlong : ¬ Builtin.List.listTooLong (its.toArray.size * k.toNat) = true := by
    rw [notLongL hlen]
    exact Bool.false_ne_true
  have hnew : List.foldl (fun x1 x2 => x1 ++ x2) #[] (List.replicate (if its.toArray.isEmpty = true then 0 else k.toNat) its.toArray) = (List.replicate k.toNat its).flatten.toArray := by
    have f0 : ∀ m : Nat, List.foldl (fun x1 x2 => x1 ++ x2) #[] (List.replicate m its.toArray) = (List.replicate m its).flatten.toArray := fun m => by
      have := foldl_rep its m []
      rw [List.nil_append] at this
      exact this
    rw [f0]
    cases its with
    | nil => simp
    | cons a r' => rw [if_neg (by simp)]
  refine wpAny_binaryOp_repeat_ref (T := "list") (U := "int") (by decide) ⟨_, e, rfl⟩ (fun s' => typeIs_int s' k t) noFill_list_mul F.fills_int_mul F.slot_int_rmul repeat_list F.slot_int_index.lookup
    (call_meets F.slot_int_rmul (typeIs_int s k t) F.entry_int_rmul (F.args_int_rmul_2 _ _) (int___rmul___int_list k t l its.toArray n)
      ⟨e, rfl, ⟨_, e, rfl⟩, call_meets F.slot_list_mul ⟨_, e, rfl⟩ F.entry_list_mul (F.args_list_mul_2 _ _) (AutoListH.list___mul___list_int_3 l its.toArray n k t hfit hcap hlong) ⟨e, ?_⟩⟩)
  rw [hnew]
  exact ⟨.ref _, _, I.lnew (t' := s.toks) (r.rep k.toNat) (by rw [PyProof.Rows.lm_len_rep_flat, Nat.mul_comm]; exact hz), rfl, q _ I.fresh⟩
end
end L2
namespace Mi
open PySem L2
section
variable {G : Gx} {X : L2.Cx} {ρ zs : List Addr} {H : Hp}
theorem RDs.rep {xs : List D} {vs : List V} (h : RDs G zs H xs vs) : ∀ k : Nat, RDs G zs H (List.replicate k xs).flatten (List.replicate k vs).flatten
  | 0 => .nil
  | k + 1 => by rw [List.replicate_succ, List.replicate_succ, List.flatten_cons, List.flatten_cons]; exact h.append (RDs.rep h k)
theorem mulOk_ok {i j : Int} (h : mulOk i j = true) : CMul i j := by
  unfold mulOk at h
  simp only [Bool.or_eq_true, Bool.and_eq_true, decide_eq_true_eq] at h
  exact h
theorem op_mulD (hK : X.K = G.K) : OpR X (binaryOp .Mult) (rD2 G (binD .Mult)) := by
  intro pins s σ H x y v u Q I rx ry h
  obtain ⟨ρ, o, p, q, val, b, hp, hq, e, w⟩ := h
  cases p with
  | int i =>
    cases q with
    | int j =>
      cases hp; cases hq
      simp only [binD] at e
      by_cases hm : mulOk i j = true
      · rw [if_pos hm] at e; cases e
        exact op_mul pins s σ H _ _ v u Q I rx ry ⟨i, j, rfl, rfl, mulOk_ok hm, w _ _ (post_same b (.int _))⟩
      · rw [if_neg hm] at e; cases e
    | _ => simp [binD] at e
  | lst i =>
    cases q with
    | int k =>
      obtain ⟨a1, vs1, rfl, h1, r1⟩ := hp
      cases hq
      simp only [binD] at e
      split at e
      · rename_i hc
        cases e
        simp only [Bool.and_eq_true, decide_eq_true_eq] at hc
        obtain ⟨⟨c1, c2⟩, c3⟩ := hc
        exact op_repR pins s σ H _ _ v u Q I rx ry ⟨_, k, _, rfl, rfl, h1, c1, c2, by rw [← line_eq, ← r1.length]; exact c3, fun p hn => w _ _ (post_lst b hn (r1.rep _))⟩
      · cases e
    | _ => simp [binD] at e
  | tup i =>
    cases q with
    | int k =>
      cases hp with
      | tup h1 d1 r1 =>
        cases hq
        simp only [binD] at e
        split at e
        · rename_i hc
          cases e
          simp only [Bool.and_eq_true, decide_eq_true_eq] at hc
          obtain ⟨⟨c1, c2⟩, c3⟩ := hc
          rename_i vs
          have hl := r1.length
          have h1' : SqT X.K H _ vs := sqT_frz h1
          by_cases z : vs = [] ∨ k = 1
          · refine op_repT1 pins s σ H _ _ v u Q I rx ry ⟨_, k, _, rfl, rfl, h1', z, c1, c2, w _ _ (post_same b ?_)⟩
            rcases z with z | z
            · subst z
              cases r1
              have : (List.replicate k.toNat ([] : List D)).flatten = [] := by simp
              rw [this]
              exact .tup h1 d1 .nil
            · subst z
              have : (List.replicate (1 : Int).toNat i).flatten = i := by simp
              rw [this]
              exact .tup h1 d1 r1
          · have hv : vs ≠ [] := fun q => z (.inl q)
            have hk : k ≠ 1 := fun q => z (.inr q)
            by_cases k0 : k ≤ 0
            · refine op_repT0 pins s σ H _ _ v u Q I rx ry ⟨_, k, _, rfl, rfl, h1', hv, c1, k0, fun p ob hn hd => w _ _ ?_⟩
              have : (List.replicate k.toNat i).flatten = [] := by rw [Int.toNat_of_nonpos k0]; rfl
              rw [this]
              exact post_tup b hn hd .nil
            · exact op_repTG pins s σ H _ _ v u Q I rx ry ⟨_, k, _, rfl, rfl, h1', hv, by omega, c2, by rw [← line_eq, ← hl]; exact c3, fun p ob hn hd => w _ _ (post_tup b hn hd (r1.rep _))⟩
        · cases e
    | _ => simp [binD] at e
  | _ => cases q <;> simp [binD] at e
theorem op_intD {op : Operator} {C : Int → Int → Prop} {g : Int → Int → Int} (hr : OpR X (binaryOp op) (rI C fun i j => .int (g i j)))
    (hd : ∀ p q val, binD op p q = some val → ∃ i j, p = .int i ∧ q = .int j ∧ C i j ∧ val = .w (.d (.int (g i j)))) : OpR X (binaryOp op) (rD2 G (binD op)) := by
  intro pins s σ H x y v u Q I rx ry h
  obtain ⟨ρ, o, p, q, val, b, hp, hq, e, w⟩ := h
  obtain ⟨i, j, rfl, rfl, c, rfl⟩ := hd p q val e
  cases hp; cases hq
  exact hr pins s σ H _ _ v u Q I rx ry ⟨i, j, rfl, rfl, c, w _ _ (post_same b (.int _))⟩
theorem op_subD : OpR X (binaryOp .Sub) (rD2 G (binD .Sub)) := by
  intro pins s σ H x y v u Q I rx ry h
  obtain ⟨ρ, o, p, q, val, b, hp, hq, e, w⟩ := h
  cases p <;> cases q <;> first | (simp [binD] at e; done) | skip
  cases hp; cases hq
  simp [binD] at e; subst e
  exact op_sub pins s σ H _ _ v u Q I rx ry ⟨_, _, rfl, rfl, w _ _ (post_same b (.int _))⟩
theorem op_fdivD : OpR X (binaryOp .FloorDiv) (rD2 G (binD .FloorDiv)) := op_intD op_fdivN fun p q val e => by
  cases p <;> cases q <;> first | (simp [binD] at e; done) | skip
  simp only [binD] at e
  split at e
  · cases e; exact ⟨_, _, rfl, rfl, by assumption, rfl⟩
  · cases e
theorem op_modD : OpR X (binaryOp .Mod) (rD2 G (binD .Mod)) := op_intD op_modN fun p q val e => by
  cases p <;> cases q <;> first | (simp [binD] at e; done) | skip
  simp only [binD] at e
  split at e
  · cases e; exact ⟨_, _, rfl, rfl, by assumption, rfl⟩
  · cases e
theorem op_powD : OpR X (binaryOp .Pow) (rD2 G (binD .Pow)) := op_intD op_pow fun p q val e => by
  cases p <;> cases q <;> first | (simp [binD] at e; done) | skip
  simp only [binD] at e
  split at e
  · cases e; exact ⟨_, _, rfl, rfl, by assumption, rfl⟩
  · cases e
theorem op_shlD : OpR X (binaryOp .LShift) (rD2 G (binD .LShift)) := op_intD op_shl fun p q val e => by
  cases p <;> cases q <;> first | (simp [binD] at e; done) | skip
  simp only [binD] at e
  split at e
  · cases e; exact ⟨_, _, rfl, rfl, by assumption, rfl⟩
  · cases e
theorem op_shrD : OpR X (binaryOp .RShift) (rD2 G (binD .RShift)) := op_intD op_shr fun p q val e => by
  cases p <;> cases q <;> first | (simp [binD] at e; done) | skip
  simp only [binD] at e
  split at e
  · cases e; exact ⟨_, _, rfl, rfl, by assumption, rfl⟩
  · cases e
theorem op_allD (hK : X.K = G.K) (op : Operator) : OpR X (binaryOp op) (rD2 G (binD op)) := by
  cases op <;> first
    | exact op_addD hK | exact op_subD | exact op_mulD hK | exact op_fdivD | exact op_modD | exact op_powD | exact op_shlD | exact op_shrD
    | (intro pins s σ H x y v u Q I rx ry h
       obtain ⟨ρ, o, p, q, val, b, hp, hq, e, w⟩ := h
       cases p <;> cases q <;> simp [binD] at e)
theorem op_negD : UnR X (unaryOp .USub) (rD1 G fun p => (negD p).map wd) := by
  intro pins s σ H x v Q I rx h
  obtain ⟨ρ, o, p, val, b, hp, e, w⟩ := h
  cases p <;> first | (simp [negD] at e; done) | skip
  cases hp
  simp [negD] at e; subst e
  exact un_neg pins s σ H _ v Q I rx ⟨_, rfl, w _ _ (post_same b (.int _))⟩
end
end Mi
end
section
set_option linter.all false
set_option Elab.async false
set_option maxHeartbeats 2000000
set_option autoImplicit false
namespace Mi
open PySem L2
mutual
theorem toPy_lay : ∀ (n : Nat) (x : D), plain n x = true → (toPy x).canLay0 = true
  | _, .non, _ => by simp [toPy, PyData.canLay0]
  | _, .bl _, _ => by simp [toPy, PyData.canLay0]
  | _, .int _, _ => by simp [toPy, PyData.canLay0]
  | _, .str s, h => by
    simp [plain] at h
    simp only [toPy, PyData.canLay0, PyData.strOk]
    simpa using h
  | n + 1, .lst xs, h => by
    simp [plain] at h
    simp [toPy, PyData.canLay0]
    exact toPys_lay n xs h
  | n + 1, .tup xs, h => by
    simp [plain] at h
    simp [toPy, PyData.canLay0]
    exact toPys_lay n xs h
  | 0, .lst _, h => by simp [plain] at h
  | 0, .tup _, h => by simp [plain] at h
  | 0, .ty _, h => by simp [plain] at h
  | 0, .glo _, h => by simp [plain] at h
  | 0, .obj _ _, h => by simp [plain] at h
  | 0, .dct _, h => by simp [plain] at h
  | 0, .set _, h => by simp [plain] at h
  | _ + 1, .ty _, h => by simp [plain] at h
  | _ + 1, .glo _, h => by simp [plain] at h
  | _ + 1, .obj _ _, h => by simp [plain] at h
  | _ + 1, .dct _, h => by simp [plain] at h
  | _ + 1, .set _, h => by simp [plain] at h
theorem toPys_lay : ∀ (n : Nat) (xs : List D), plains n xs = true → PyData.canLayAll0 (toPys xs) = true
  | _, [], _ => by simp [toPys, PyData.canLayAll0]
  | n, x :: xs, h => by
    simp [plains] at h
    simp [toPys, PyData.canLayAll0]
    exact ⟨toPy_lay n x h.1, toPys_lay n xs h.2⟩
end
mutual
theorem toPy_depth : ∀ (n : Nat) (x : D), plain n x = true → (toPy x).depth ≤ n
  | _, .non, _ => by simp [toPy, PyData.depth]
  | _, .bl _, _ => by simp [toPy, PyData.depth]
  | _, .int _, _ => by simp [toPy, PyData.depth]
  | _, .str s, h => by simp [toPy, PyData.depth]
  | n + 1, .lst xs, h => by
    simp [plain] at h
    simp [toPy, PyData.depth]
    exact toPys_depth n xs h
  | n + 1, .tup xs, h => by
    simp [plain] at h
    simp [toPy, PyData.depth]
    exact toPys_depth n xs h
  | 0, .lst _, h => by simp [plain] at h
  | 0, .tup _, h => by simp [plain] at h
  | 0, .ty _, h => by simp [plain] at h
  | 0, .glo _, h => by simp [plain] at h
  | 0, .obj _ _, h => by simp [plain] at h
  | 0, .dct _, h => by simp [plain] at h
  | 0, .set _, h => by simp [plain] at h
  | _ + 1, .ty _, h => by simp [plain] at h
  | _ + 1, .glo _, h => by simp [plain] at h
  | _ + 1, .obj _ _, h => by simp [plain] at h
  | _ + 1, .dct _, h => by simp [plain] at h
  | _ + 1, .set _, h => by simp [plain] at h
theorem toPys_depth : ∀ (n : Nat) (xs : List D), plains n xs = true → PyData.depthAll (toPys xs) ≤ n
  | _, [], _ => by simp [toPys, PyData.depthAll]
  | n, x :: xs, h => by
    simp [plains] at h
    simp [toPys, PyData.depthAll]
    exact Nat.max_le.mpr ⟨toPy_depth n x h.1, toPys_depth n xs h.2⟩
end
theorem toPy_shaped {x : D} (h : plain 60 x = true) : SeqAt.shaped (toPy x) = true := by
  unfold SeqAt.shaped
  rw [toPy_lay 60 x h, Bool.true_and]
  exact decide_eq_true (Nat.le_trans (toPy_depth 60 x h) (by decide))
mutual
theorem eqv_toPy : ∀ (n m : Nat) (x y : D), plain n x = true → plain m y = true → PyData.eqv (toPy x) (toPy y) = eqD x y
  | n, m, .non, y, hx, hy => by cases y <;> cases m <;> first | (simp [plain] at hy; done) | simp [toPy, PyData.eqv, eqD]
  | n, m, .bl b, y, hx, hy => by cases y <;> cases m <;> first | (simp [plain] at hy; done) | simp [toPy, PyData.eqv, eqD]
  | n, m, .int i, y, hx, hy => by cases y <;> cases m <;> first | (simp [plain] at hy; done) | simp [toPy, PyData.eqv, eqD]
  | n, m, .str s, y, hx, hy => by cases y <;> cases m <;> first | (simp [plain] at hy; done) | simp [toPy, PyData.eqv, eqD]
  | n + 1, m + 1, .lst xs, .lst ys, hx, hy => by
    simp only [toPy, PyData.eqv, eqD]
    exact eqv_toPys n m xs ys (by simpa [plain] using hx) (by simpa [plain] using hy)
  | n + 1, m + 1, .tup xs, .tup ys, hx, hy => by
    simp only [toPy, PyData.eqv, eqD]
    exact eqv_toPys n m xs ys (by simpa [plain] using hx) (by simpa [plain] using hy)
  | n + 1, m, .lst xs, .non, hx, hy => by simp [toPy, PyData.eqv, eqD]
  | n + 1, m, .lst xs, .bl _, hx, hy => by simp [toPy, PyData.eqv, eqD]
  | n + 1, m, .lst xs, .int _, hx, hy => by simp [toPy, PyData.eqv, eqD]
  | n + 1, m, .lst xs, .str _, hx, hy => by simp [toPy, PyData.eqv, eqD]
  | n + 1, m + 1, .lst xs, .tup _, hx, hy => by simp [toPy, PyData.eqv, eqD]
  | n + 1, m, .tup xs, .non, hx, hy => by simp [toPy, PyData.eqv, eqD]
  | n + 1, m, .tup xs, .bl _, hx, hy => by simp [toPy, PyData.eqv, eqD]
  | n + 1, m, .tup xs, .int _, hx, hy => by simp [toPy, PyData.eqv, eqD]
  | n + 1, m, .tup xs, .str _, hx, hy => by simp [toPy, PyData.eqv, eqD]
  | n + 1, m + 1, .tup xs, .lst _, hx, hy => by simp [toPy, PyData.eqv, eqD]
  | _, 0, _, .lst _, _, hy => by simp [plain] at hy
  | _, 0, _, .tup _, _, hy => by simp [plain] at hy
  | 0, _, .lst _, _, hx, _ => by simp [plain] at hx
  | 0, _, .tup _, _, hx, _ => by simp [plain] at hx
  | n, _, .ty _, _, hx, _ => by cases n <;> simp [plain] at hx
  | n, _, .glo _, _, hx, _ => by cases n <;> simp [plain] at hx
  | n, _, .obj _ _, _, hx, _ => by cases n <;> simp [plain] at hx
  | n, _, .dct _, _, hx, _ => by cases n <;> simp [plain] at hx
  | n, _, .set _, _, hx, _ => by cases n <;> simp [plain] at hx
  | _, m, _, .ty _, _, hy => by cases m <;> simp [plain] at hy
  | _, m, _, .glo _, _, hy => by cases m <;> simp [plain] at hy
  | _, m, _, .obj _ _, _, hy => by cases m <;> simp [plain] at hy
  | _, m, _, .dct _, _, hy => by cases m <;> simp [plain] at hy
  | _, m, _, .set _, _, hy => by cases m <;> simp [plain] at hy
theorem eqv_toPys : ∀ (n m : Nat) (xs ys : List D), plains n xs = true → plains m ys = true → PyData.eqvAll (toPys xs) (toPys ys) = eqDs xs ys
  | _, _, [], [], _, _ => by simp [toPys, PyData.eqvAll, eqDs]
  | _, _, [], _ :: _, _, _ => by simp [toPys, PyData.eqvAll, eqDs]
  | _, _, _ :: _, [], _, _ => by simp [toPys, PyData.eqvAll, eqDs]
  | n, m, x :: xs, y :: ys, hx, hy => by
    simp [plains] at hx hy
    simp only [toPys, PyData.eqvAll, eqDs]
    rw [eqv_toPy n m x y hx.1 hy.1, eqv_toPys n m xs ys hx.2 hy.2]
end
section
variable {G : Gx} {zs ρ : List Addr} {H : Hp} {o : List Ob}
mutual
theorem dp_of : ∀ (n : Nat) (x : D) (v : V), plain n x = true → RD G zs H x v → Dp G.K H v (toPy x)
  | n, .non, v, h, r => by cases r; simp only [toPy]; exact .non
  | n, .bl b, v, h, r => by cases r; simp only [toPy]; exact .bl b
  | n, .int i, v, h, r => by cases r; simp only [toPy]; exact .int i
  | n, .str s, v, h, r => by cases r; simp only [toPy]; exact .str s
  | n, .lst xs, v, h, r => by
    cases n with
    | zero => simp [plain] at h
    | succ n => cases r with
      | lst a _ r => simp only [toPy]; exact .lst (.inl a) (dps_of n xs _ (by simpa [plain] using h) r)
  | n, .tup xs, v, h, r => by
    cases n with
    | zero => simp [plain] at h
    | succ n => cases r with
      | tup a _ r => simp only [toPy]; exact .tup (sqT_frz a) (dps_of n xs _ (by simpa [plain] using h) r)
  | n, .ty _, _, h, _ => by cases n <;> simp [plain] at h
  | n, .glo _, _, h, _ => by cases n <;> simp [plain] at h
  | n, .obj _ _, _, h, _ => by cases n <;> simp [plain] at h
  | n, .dct _, _, h, _ => by cases n <;> simp [plain] at h
  | n, .set _, _, h, _ => by cases n <;> simp [plain] at h
theorem dps_of : ∀ (n : Nat) (xs : List D) (vs : List V), plains n xs = true → RDs G zs H xs vs → DpAll G.K H vs (toPys xs)
  | n, [], vs, h, r => by cases r; simp only [toPys]; exact .nil
  | n, x :: xs, vs, h, r => by
    cases r with
    | cons a r =>
      simp [plains] at h
      simp only [toPys]
      exact .cons (dp_of n x _ h.1 a) (dps_of n xs _ h.2 r)
end
theorem dp_vd {n : Nat} {x : D} {v : V} (h : plain n x = true) (r : VD G ρ H x v) : Dp G.K H v (toPy x) := by
  cases x with
  | lst xs =>
    obtain ⟨a, vs, rfl, ha, rr⟩ := r
    cases n with
    | zero => simp [plain] at h
    | succ n =>
      simp only [toPy]
      exact .lst (.inl ha) (dps_of n xs _ (by simpa [plain] using h) rr)
  | non => exact dp_of n _ _ h r
  | bl _ => exact dp_of n _ _ h r
  | int _ => exact dp_of n _ _ h r
  | str _ => exact dp_of n _ _ h r
  | tup _ => exact dp_of n _ _ h r
  | ty _ => exact dp_of n _ _ h r
  | glo _ => exact dp_of n _ _ h r
  | obj _ _ => exact dp_of n _ _ h r
  | dct _ => cases n <;> simp [plain] at h
  | set _ => exact dp_of n _ _ h r
/-! ### values at any depth -/
theorem rdf_of : ∀ {ws : List (Nat × W)} {vs : List (Str × V)} {xs : List (Nat × D)}, allDfs ws = some xs → RWf G ρ zs H ws vs → RDf G zs H xs vs
  | [], _, _, e, .nil => by cases e; exact .nil
  | (k, .d x) :: ws, _, xs, e, .cons h r => by
    cases q : allDfs ws with
    | none => simp [allDfs, q] at e
    | some ys =>
      simp [allDfs, q] at e; subst e
      exact .cons h.1 h.2 (rdf_of q r)
  | (_, .loc _) :: _, _, _, e, _ => by cases e
theorem deep_ok (b : Obs G ρ ρ H o) (n : Nat) : ∀ {w : W} {x : D} {v : V}, deep o n w = some x → RW G ρ ρ H w v → RD G [] H x v := by
  induction n with
  | zero =>
    intro w x v e r
    cases w with
    | d y => simp [deep] at e; subst e; exact RD.less (zs' := []) (fun _ m => nomatch m) r
    | loc k => simp [deep] at e
  | succ n ih =>
    intro w x v e r
    cases w with
    | d y => simp [deep] at e; subst e; exact RD.less (zs' := []) (fun _ m => nomatch m) r
    | loc k =>
      obtain ⟨a, ea, rfl⟩ := r
      cases q : o[k]? with
      | none => simp [deep, q] at e
      | some u =>
        have rb := b.ob k u a q ea
        cases u with
        | lst ws =>
          obtain ⟨vs, ha, rw, _⟩ := rb
          simp only [deep, q] at e
          cases z : ws.mapM (deep o n) with
          | none => simp [z] at e
          | some xs =>
            simp [z] at e; subst e
            have go : ∀ {ws : List W} {vs : List V} {xs : List D}, ws.mapM (deep o n) = some xs → RWs G ρ ρ H ws vs → RDs G [] H xs vs := by
              intro ws
              induction ws with
              | nil => intro vs xs z rw; cases rw; simp at z; subst z; exact .nil
              | cons w ws ih2 =>
                intro vs xs z rw
                cases rw with
                | cons h r =>
                  rw [List.mapM_cons] at z
                  cases z1 : deep o n w with
                  | none => simp [z1] at z
                  | some y =>
                    cases z2 : ws.mapM (deep o n) with
                    | none => simp [z1, z2] at z
                    | some ys =>
                      simp [z1, z2] at z; subst z
                      exact .cons (ih z1 h) (ih2 z2 r)
            exact .lst (.inl ha) ⟨(fun m => nomatch m), fun m => (b.av _ m).2 (b.sub _ (mem_of_get ea))⟩ (go z rw)
        | dct kvs =>
          obtain ⟨vs, u, rw, _, hd, hu⟩ := rb
          simp only [deep, q] at e
          cases z : allDkv kvs with
          | none => simp [z] at e
          | some xs =>
            simp [z] at e; subst e
            obtain ⟨h1, h2⟩ := rkv_of z
            exact .dct hu ⟨(fun m => nomatch m), fun m => (b.av _ m).2 (b.sub _ (mem_of_get ea))⟩ (by rw [h1]; exact hd) (RDs.less (zs' := []) (fun _ m => nomatch m) (rds_of h2 rw))
        | ins c fs =>
          obtain ⟨C, dx, fv, ha, hc, rw, _⟩ := rb
          simp only [deep, q] at e
          cases z : allDfs fs with
          | none => simp [z] at e
          | some xs =>
            simp [z] at e; subst e
            exact .obj ha ⟨(fun m => nomatch m), fun m => (b.av _ m).2 (b.sub _ (mem_of_get ea))⟩ hc (RDf.less (zs' := []) (fun _ m => nomatch m) (rdf_of z rw))
        | dead => exact rb.elim
        | tab _ => simp [deep, q] at e
        | ora _ => simp [deep, q] at e
end
end Mi
end
section
set_option linter.all false
set_option Elab.async false
set_option maxHeartbeats 2000000
set_option autoImplicit false
namespace Mi
open PySem L2
/-! ### comparisons -/
def rW2 (G : Gx) (f : W → W → List Ob → R Val) : R2 := fun x y H Q => ∃ ρ o wx wy val o', Obs G ρ ρ H o ∧ RW G ρ ρ H wx x ∧ RW G ρ ρ H wy y ∧ f wx wy o = .ok val o' ∧ WantV G ρ H Q val o'
def rOwnEq (G : Gx) (cx : Cx) (neg : Bool) : R2 := fun x y H Q => ∃ ρ o wx wy val o', Obs G ρ ρ H o ∧ RW G ρ ρ H wx x ∧ RW G ρ ρ H wy y ∧
  (∃ c fs q, deep o 60 wx = some (.obj c fs) ∧ deep o 60 wy = some q ∧ (∀ n, q ≠ .glo n) ∧ eqOwn cx neg c wx wy o = .ok val o') ∧ WantV G ρ H Q val o'
theorem eqOwn_ne {cx : Cx} {neg : Bool} {c : Nat} {a b : W} {o o1 : List Ob} {e : Ex} : eqOwn cx neg c a b o ≠ .exc e o1 := by
  unfold eqOwn
  split
  · split <;> (intro h; cases h)
  · intro h; cases h
theorem cmpW_ne {cx : Cx} {op : CmpOp} {a b : W} {o o1 : List Ob} {e : Ex} : cmpW cx op a b o ≠ .exc e o1 := by
  unfold cmpW
  cases op <;> simp only <;> first
    | (split
       · intro h; cases h
       · intro h; cases h
       · exact eqOwn_ne
       · split <;> (intro h; cases h)
       · intro h; cases h)
    | (split
       · split <;> (intro h; cases h)
       · intro h; cases h)
section
variable {G : Gx} {X : L2.Cx} {Wx : WX} {pos : Pos} {a b c e : Expr} {ra rb rc : Sg → List Ob → R W} {cx : Cx}
theorem bools_and {p q : Bool} (h : (p && q) = true) : p = true ∧ q = true := Bool.and_eq_true_iff.mp h
theorem any_toPys : ∀ {n m : Nat} {xs : List D} {y : D}, plains n xs = true → plain m y = true → ((toPys xs).any fun z => PyData.eqv z (toPy y)) = xs.any fun z => eqD z y
  | _, _, [], _, _, _ => rfl
  | n, m, x :: xs, y, h, hy => by
    simp [plains] at h
    simp only [toPys, List.any_cons]
    rw [eqv_toPy n m x y h.1 hy, any_toPys h.2 hy]
theorem plains_lst {xs : List D} (h : plain 60 (.lst xs) = true) : plains 59 xs = true := by simpa [plain] using h
theorem dp_reads {pins : List (Addr × Obj)} {σ : L2.St} {H : Hp} {s : Shared} {n : Nat} {zs : List Addr} {x : D} {v : V} {u : Value} (hK : X.K = G.K) (I : Inv X pins σ H s) (h : plain n x = true) (r : RD G zs H x v) (ru : RelV v u) : ∃ as, Reads s.heap u (toPy x) as :=
  Dp.reads I (toPy x) v u (by rw [hK]; exact dp_of n x v h r) ru
theorem dp_readsV {pins : List (Addr × Obj)} {σ : L2.St} {H : Hp} {s : Shared} {n : Nat} {ρ : List Addr} {x : D} {v : V} {u : Value} (hK : X.K = G.K) (I : Inv X pins σ H s) (h : plain n x = true) (r : VD G ρ H x v) (ru : RelV v u) : ∃ as, Reads s.heap u (toPy x) as :=
  Dp.reads I (toPy x) v u (by rw [hK]; exact dp_vd h r) ru
theorem op_cmpW (hK : X.K = G.K) (hu : X.A.units + 65 < cLine) (hq : OpR X (compareOp .Eq) (rOwnEq G cx false)) (hn : OpR X (compareOp .NotEq) (rOwnEq G cx true)) (op : CmpOp) : OpR X (compareOp op) (rW2 G (cmpW cx op)) := by
  intro pins s σ H x y v u Q I rx ry h
  obtain ⟨ρ, o, wx, wy, val, o', b, hx, hy, e, w⟩ := h
  have plainGo : ∀ (op : CmpOp), (∀ p q, view o wx = some p → view o wy = some q → ∀ k, cmpD op p q = some k → val = wd (.bl k) → o' = o → wpAny (model X.prog X.w) X.A (compareOp op v u) (EP X pins σ Q) X.xe s) →
      (match view o wx, view o wy with
        | some x, some y => match cmpD op x y with
          | some k => R.ok (wd (.bl k)) o
          | none => .bad
        | _, _ => .bad) = R.ok val o' → wpAny (model X.prog X.w) X.A (compareOp op v u) (EP X pins σ Q) X.xe s := by
    intro op k e
    cases vx : view o wx with
    | none => simp [vx] at e
    | some p =>
      cases vy : view o wy with
      | none => simp [vx, vy] at e
      | some q =>
        cases z : cmpD op p q with
        | none => simp [vx, vy, z] at e
        | some r =>
          simp only [vx, vy, z, R.ok.injEq] at e
          exact k p q vx vy r z e.1.symm e.2.symm
  have intGo : ∀ (op : CmpOp) (g : Int → Int → Bool), OpR X (compareOp op) (rI0 fun i j => .bl (g i j)) → (∀ p q k, cmpD op p q = some k → ∃ i j, p = .int i ∧ q = .int j ∧ k = g i j) → (match view o wx, view o wy with
        | some x, some y => match cmpD op x y with
          | some k => R.ok (wd (.bl k)) o
          | none => .bad
        | _, _ => .bad) = R.ok val o' → wpAny (model X.prog X.w) X.A (compareOp op v u) (EP X pins σ Q) X.xe s := by
    intro op g ho hg e
    refine plainGo op (fun p q vx vy k z ev eo => ?_) e
    obtain ⟨i, j, rfl, rfl, rfl⟩ := hg p q k z
    have h1 := view_ok b vx hx
    have h2 := view_ok b vy hy
    cases h1; cases h2
    subst ev eo
    exact ho pins s σ H _ _ v u Q I rx ry ⟨i, j, rfl, rfl, w _ _ (post_same b (.bl _))⟩
  cases op with
  | Eq =>
    simp only [cmpW] at e
    split at e
    · rename_i p q dx dy
      cases e
      have h1 := deep_ok b 60 dx hx
      have h2 := deep_ok b 60 dy hy
      cases h1; cases h2
      exact op_eq pins s σ H _ _ v u Q I rx ry ⟨rfl, by rw [dec_str]; exact w _ _ (post_same b (.bl _))⟩
    · cases e
    · rename_i hng dx dy
      exact hq pins s σ H x y v u Q I rx ry ⟨ρ, o, wx, wy, val, o', b, hx, hy, ⟨_, _, _, dx, dy, fun n z => by first | exact hng n z | (subst z; simp at hng), e⟩, w⟩
    · rename_i p q _ dx dy
      split at e
      · rename_i hp
        obtain ⟨p1, p2⟩ := bools_and hp
        cases e
        obtain ⟨as, r1⟩ := dp_reads hK I p1 (deep_ok b 60 dx hx) rx
        obtain ⟨bs, r2⟩ := dp_reads hK I p2 (deep_ok b 60 dy hy) ry
        refine SeqAt.compareEq_shaped r1 r2 (toPy_shaped p1) (toPy_shaped p2) (by omega) ⟨.bl _, H, I, rfl, w _ _ ?_⟩
        rw [eqv_toPy 60 60 _ _ p1 p2]
        exact post_same b (.bl _)
      · cases e
    · cases e
  | NotEq =>
    simp only [cmpW] at e
    split at e
    · rename_i p q dx dy
      cases e
      have h1 := deep_ok b 60 dx hx
      have h2 := deep_ok b 60 dy hy
      cases h1; cases h2
      exact op_ne pins s σ H _ _ v u Q I rx ry ⟨rfl, by rw [dec_str]; exact w _ _ (post_same b (.bl _))⟩
    · cases e
    · rename_i hng dx dy
      exact hn pins s σ H x y v u Q I rx ry ⟨ρ, o, wx, wy, val, o', b, hx, hy, ⟨_, _, _, dx, dy, fun n z => by first | exact hng n z | (subst z; simp at hng), e⟩, w⟩
    · rename_i p q _ dx dy
      split at e
      · rename_i hp
        obtain ⟨p1, p2⟩ := bools_and hp
        cases e
        obtain ⟨as, r1⟩ := dp_reads hK I p1 (deep_ok b 60 dx hx) rx
        obtain ⟨bs, r2⟩ := dp_reads hK I p2 (deep_ok b 60 dy hy) ry
        refine SeqAt.compareNe_shaped r1 r2 (toPy_shaped p1) (toPy_shaped p2) (by omega) ⟨.bl _, H, I, rfl, w _ _ ?_⟩
        rw [eqv_toPy 60 60 _ _ p1 p2]
        exact post_same b (.bl _)
      · cases e
    · cases e
  | Lt => exact intGo .Lt _ op_lt (fun p q k z => by cases p <;> cases q <;> first | (simp [cmpD] at z; done) | (simp [cmpD] at z; exact ⟨_, _, rfl, rfl, z.symm⟩)) e
  | LtE => exact intGo .LtE _ op_le (fun p q k z => by cases p <;> cases q <;> first | (simp [cmpD] at z; done) | (simp [cmpD] at z; exact ⟨_, _, rfl, rfl, z.symm⟩)) e
  | Gt => exact intGo .Gt _ op_gt (fun p q k z => by cases p <;> cases q <;> first | (simp [cmpD] at z; done) | (simp [cmpD] at z; exact ⟨_, _, rfl, rfl, z.symm⟩)) e
  | GtE => exact intGo .GtE _ op_ge (fun p q k z => by cases p <;> cases q <;> first | (simp [cmpD] at z; done) | (simp [cmpD] at z; exact ⟨_, _, rfl, rfl, z.symm⟩)) e
  | Is => exact plainGo .Is (fun p q _ _ k z => by cases p <;> cases q <;> simp [cmpD] at z) e
  | IsNot => exact plainGo .IsNot (fun p q _ _ k z => by cases p <;> cases q <;> simp [cmpD] at z) e
  | In =>
    refine plainGo .In (fun p q vx vy k z ev eo => ?_) e
    have h1 := view_ok b vx hx
    have h2 := view_ok b vy hy
    subst ev eo
    cases q with
    | lst ys =>
      have z' : (if plain 60 p && plain 60 (.lst ys) then some (memD p ys) else none) = some k := by cases p <;> exact z
      split at z'
      · rename_i hp
        obtain ⟨p1, p2⟩ := bools_and hp
        cases z'
        obtain ⟨as, r1⟩ := dp_readsV hK I p1 h1 rx
        obtain ⟨bs, r2⟩ := dp_readsV hK I p2 h2 ry
        simp only [toPy] at r2
        have l2 := toPys_lay 59 ys (plains_lst p2)
        refine SeqAt.in_list_reads r2 r1 l2 (toPy_lay 60 _ p1) (by have := toPy_depth 60 p p1; omega) ⟨.bl _, H, I, rfl, w _ _ ?_⟩
        rw [any_toPys (plains_lst p2) p1]
        exact post_same b (.bl _)
      · cases z'
    | tup ys =>
      have z' : (if plain 60 p && plain 60 (.lst ys) then some (memD p ys) else none) = some k := by cases p <;> exact z
      split at z'
      · rename_i hp
        obtain ⟨p1, p2⟩ := bools_and hp
        cases z'
        obtain ⟨as, r1⟩ := dp_readsV hK I p1 h1 rx
        obtain ⟨bs, r2⟩ := dp_readsV (n := 60) (x := .tup ys) hK I (by simpa [plain] using p2) h2 ry
        simp only [toPy] at r2
        have l2 := toPys_lay 59 ys (plains_lst p2)
        refine SeqAt.in_tuple_reads r2 r1 l2 (toPy_lay 60 _ p1) (by have := toPy_depth 60 p p1; omega) ⟨.bl _, H, I, rfl, w _ _ ?_⟩
        rw [any_toPys (plains_lst p2) p1]
        exact post_same b (.bl _)
      · cases z'
    | _ => cases p <;> simp [cmpD] at z
  | NotIn =>
    refine plainGo .NotIn (fun p q vx vy k z ev eo => ?_) e
    have h1 := view_ok b vx hx
    have h2 := view_ok b vy hy
    subst ev eo
    cases q with
    | lst ys =>
      have z' : (if plain 60 p && plain 60 (.lst ys) then some (!memD p ys) else none) = some k := by cases p <;> exact z
      split at z'
      · rename_i hp
        obtain ⟨p1, p2⟩ := bools_and hp
        cases z'
        obtain ⟨as, r1⟩ := dp_readsV hK I p1 h1 rx
        obtain ⟨bs, r2⟩ := dp_readsV hK I p2 h2 ry
        simp only [toPy] at r2
        have l2 := toPys_lay 59 ys (plains_lst p2)
        refine SeqAt.notIn_list_reads r2 r1 l2 (toPy_lay 60 _ p1) (by have := toPy_depth 60 p p1; omega) ⟨.bl _, H, I, rfl, w _ _ ?_⟩
        rw [any_toPys (plains_lst p2) p1]
        exact post_same b (.bl _)
      · cases z'
    | tup ys =>
      have z' : (if plain 60 p && plain 60 (.lst ys) then some (!memD p ys) else none) = some k := by cases p <;> exact z
      split at z'
      · rename_i hp
        obtain ⟨p1, p2⟩ := bools_and hp
        cases z'
        obtain ⟨as, r1⟩ := dp_readsV hK I p1 h1 rx
        obtain ⟨bs, r2⟩ := dp_readsV (n := 60) (x := .tup ys) hK I (by simpa [plain] using p2) h2 ry
        simp only [toPy] at r2
        have l2 := toPys_lay 59 ys (plains_lst p2)
        refine SeqAt.notIn_tuple_reads r2 r1 l2 (toPy_lay 60 _ p1) (by have := toPy_depth 60 p p1; omega) ⟨.bl _, H, I, rfl, w _ _ ?_⟩
        rw [any_toPys (plains_lst p2) p1]
        exact post_same b (.bl _)
      · cases z'
    | _ => cases p <;> simp [cmpD] at z
end
end Mi
end
section
set_option linter.all false
set_option Elab.async false
set_option maxHeartbeats 2000000
set_option autoImplicit false
namespace Mi
open PySem L2
section
variable {G : Gx} {X : L2.Cx} {Wx : WX} {pos : Pos} {a b c e : Expr} {r ra rb rc : Sg → List Ob → R W} {cx : Cx}
/-! ### constants and names -/
theorem tE_ok {σ : L2.St} {H : Hp} {Q : VK} {d : D} {v : V} (h : tE G Wx (fun _ o => .ok (.w (.d d)) o) σ H Q) (hr : ∀ zs H, RD G zs H d v) : Q v H := by
  obtain ⟨ρ, τ, o, b, l, h⟩ := h
  exact h v H (post_same b (hr ρ H))
theorem pe_cD {d : D} {v : V} (h : PE X e (tC v)) (hr : ∀ zs H, RD G zs H d v) : PE X e (tE G Wx (fun _ o => .ok (.w (.d d)) o)) := PE.weak h fun _ _ _ q => tE_ok q hr
theorem pe_varD {i : Nat} (h : PE X e (tVar i)) : PE X e (tE G Wx (fun τ o => match τ[i]? with | some (some w) => .ok (.w w) o | _ => .bad)) := PE.weak h fun σ H Q ⟨ρ, τ, o, b, l, q⟩ => by
  cases z : τ[i]? with
  | none => simp only [z] at q; exact q.elim
  | some w =>
    cases w with
    | none => simp only [z] at q; exact q.elim
    | some w =>
      simp only [z] at q
      obtain ⟨v, e, r⟩ := l.at_ i w z
      exact ⟨v, e, q v H ⟨ρ, List.prefix_rfl, Stp.refl, b, r⟩⟩
/-! ### tests -/
def dflt : Expr → Bool
  | .UnaryOp .Not _ _ => false
  | .BoolOp _ _ _ => false
  | .IfExp _ _ _ _ => false
  | .Compare _ _ _ _ => false
  | _ => true
theorem isTrue_dflt {e : Expr} (h : dflt e = true) (env : Env) : ∀ whole, isTrue e env whole = (do let v ← whole; standAt e.pos; holding [v] (truthy v)) := by
  intro whole
  cases e <;> first | rfl | (simp [dflt] at h; done) | skip
  rename_i op x p
  cases op <;> first | rfl | (simp [dflt] at h)
def isBoolOp : Expr → Bool
  | .BoolOp _ _ _ => true
  | _ => false
def isIfExp : Expr → Bool
  | .IfExp _ _ _ _ => true
  | _ => false
/-- an expression and its word, as a value and as a test -/
structure EE (G : Gx) (X : L2.Cx) (Wx : WX) (e : Expr) (r : Sg → List Ob → R Val) : Prop where
  pe : PE X e (tE G Wx r)
  pt : isIfExp e = false → PT X e (tT G Wx fun τ o => asT (r τ o))
  pw : isBoolOp e = true → PW X e (tT G Wx fun τ o => asT (r τ o))
theorem EE.w {r : Sg → List Ob → R Val} (h : EE G X Wx e r) : PE X e (tW G Wx fun τ o => asW (r τ o)) := pw_of h.pe
theorem EE.of {r : Sg → List Ob → R Val} (h : PE X e (tE G Wx r)) (hd : dflt e = true) : EE G X Wx e r :=
  ⟨h, fun _ => pt_of (pt_val h (isTrue_dflt hd X.env)), fun z => by cases e <;> first | (simp [isBoolOp] at z; done) | (simp [dflt] at hd)⟩
/-- tests of truth values -/
theorem tT_bnd {σ : L2.St} {H : Hp} {Q : VK} {rt : Sg → List Ob → R Bool} {f : Sg → Bool → List Ob → R Val} (h : tE G Wx (fun τ o => bnd (rt τ o) (f τ)) σ H Q) :
    tT G Wx rt σ H fun k H1 => tE G Wx (fun τ o => f τ k o) σ H1 Q := by
  obtain ⟨ρ, τ, o, b, l, h⟩ := h
  refine ⟨ρ, τ, o, b, l, h.bnd.mono fun k o1 q H1 hp => ?_⟩
  obtain ⟨ρ1, p, s, b1⟩ := hp
  exact ⟨ρ1, τ, o1, b1, l.step p s b.zm, q.lift p s fun _ _ q => WantV.lift p s q⟩
theorem tTT_bnd {σ : L2.St} {H : Hp} {Q : Bool → Hp → Prop} {rt : Sg → List Ob → R Bool} {f : Sg → Bool → List Ob → R Bool} (h : tT G Wx (fun τ o => bnd (rt τ o) (f τ)) σ H Q) :
    tT G Wx rt σ H fun k H1 => tT G Wx (fun τ o => f τ k o) σ H1 Q := by
  obtain ⟨ρ, τ, o, b, l, h⟩ := h
  refine ⟨ρ, τ, o, b, l, h.bnd.mono fun k o1 q H1 hp => ?_⟩
  obtain ⟨ρ1, p, s, b1⟩ := hp
  exact ⟨ρ1, τ, o1, b1, l.step p s b.zm, q.lift p s fun _ _ q H2 hp2 => q H2 (hp2.lift p s)⟩
theorem bnd_assoc {α β γ : Type} (r : R α) (f : α → List Ob → R β) (g : β → List Ob → R γ) : bnd (bnd r f) g = bnd r fun a o => bnd (f a o) g := by cases r <;> rfl
theorem asT_wd (k : Bool) (o : List Ob) : asT (.ok (wd (.bl k)) o) = .ok k o := rfl
theorem tT_ok {σ : L2.St} {H : Hp} {Q : Bool → Hp → Prop} {k : Bool} (h : tT G Wx (fun _ o => .ok k o) σ H Q) : Q k H := by
  obtain ⟨ρ, τ, o, b, l, h⟩ := h
  exact h H ⟨ρ, List.prefix_rfl, Stp.refl, b⟩
theorem tE_bl {σ : L2.St} {H : Hp} {Q : VK} {k : Bool} (h : tE G Wx (fun _ o => .ok (wd (.bl k)) o) σ H Q) : Q (.bl k) H := tE_ok h fun _ _ => .bl _
def andR (ra rb : Sg → List Ob → R Val) : Sg → List Ob → R Val := fun τ o => bnd (asT (ra τ o)) fun k o1 => if k then bnd (asT (rb τ o1)) fun k' o2 => .ok (wd (.bl k')) o2 else .ok (wd (.bl false)) o1
def orR (ra rb : Sg → List Ob → R Val) : Sg → List Ob → R Val := fun τ o => bnd (asT (ra τ o)) fun k o1 => if k then .ok (wd (.bl true)) o1 else bnd (asT (rb τ o1)) fun k' o2 => .ok (wd (.bl k')) o2
def notR (ra : Sg → List Ob → R Val) : Sg → List Ob → R Val := fun τ o => bnd (asT (ra τ o)) fun k o1 => .ok (wd (.bl (!k))) o1
/-- a value that is a truth value -/
theorem tB_of {σ : L2.St} {H : Hp} {Q : VK} {ra : Sg → List Ob → R Val} (h : tT G Wx (fun τ o => asT (ra τ o)) σ H fun k H1 => Q (.bl k) H1) : tE G Wx ra σ H fun x H1 => ∃ c, x = .bl c ∧ Q (.bl c) H1 := by
  obtain ⟨ρ, τ, o, b, l, h⟩ := h
  refine ⟨ρ, τ, o, b, l, RP.mono (RP.bnd h) fun val o' q v H' hp => ?_⟩
  obtain ⟨k, e, q⟩ := RP.okO q
  obtain ⟨rfl, h0⟩ := truth_ok e hp
  exact ⟨k, rfl, q H' h0⟩
theorem tB_of' {σ : L2.St} {H : Hp} {Q : V → Bool → Hp → Prop} {ra : Sg → List Ob → R Val} (h : tT G Wx (fun τ o => asT (ra τ o)) σ H fun k H1 => Q (.bl k) k H1) : tE G Wx ra σ H fun x H1 => ∃ c, x = .bl c ∧ Q x c H1 := by
  obtain ⟨ρ, τ, o, b, l, h⟩ := h
  refine ⟨ρ, τ, o, b, l, RP.mono (RP.bnd h) fun val o' q v H' hp => ?_⟩
  obtain ⟨k, e, q⟩ := RP.okO q
  obtain ⟨rfl, h0⟩ := truth_ok e hp
  exact ⟨k, rfl, q H' h0⟩
variable {va vb vc : Sg → List Ob → R Val} {rest : List Expr}
/-- a test's word, its answer a value -/
theorem tE_again {σ : L2.St} {H : Hp} {Q : VK} (h : tE G Wx (fun τ o => bnd (asT (vb τ o)) fun k' o2 => .ok (wd (.bl k')) o2) σ H Q) : tE G Wx vb σ H Q := by
  have h1 := tT_bnd (f := fun _ k' o2 => .ok (wd (.bl k')) o2) h
  have h2 := tB_of (Q := Q) (h1.mono fun k H1 q => tE_bl q)
  exact h2.mono fun v H' ⟨c, e, q⟩ => by rw [e]; exact q
theorem pe_andE (ha : EE G X Wx a va) (hb : PE X (.BoolOp .And (b :: rest) pos) (tE G Wx vb)) : PE X (.BoolOp .And (a :: b :: rest) pos) (tE G Wx (andR va vb)) :=
  PE.weak (pe_and ha.pe hb) fun σ H Q h => by
    have h1 := tT_bnd (f := fun τ k o1 => if k then bnd (asT (vb τ o1)) fun k' o2 => .ok (wd (.bl k')) o2 else .ok (wd (.bl false)) o1) h
    refine tB_of' (h1.mono fun k H1 q => ?_)
    cases k with
    | true => exact tE_again q
    | false => exact tE_bl q
theorem pe_orE (ha : EE G X Wx a va) (hb : PE X (.BoolOp .Or (b :: rest) pos) (tE G Wx vb)) : PE X (.BoolOp .Or (a :: b :: rest) pos) (tE G Wx (orR va vb)) :=
  PE.weak (pe_or ha.pe hb) fun σ H Q h => by
    have h1 := tT_bnd (f := fun τ k o1 => if k then .ok (wd (.bl true)) o1 else bnd (asT (vb τ o1)) fun k' o2 => .ok (wd (.bl k')) o2) h
    refine tB_of' (h1.mono fun k H1 q => ?_)
    cases k with
    | true => exact tE_bl q
    | false => exact tE_again q
theorem tT_again {σ : L2.St} {H : Hp} {Q : Bool → Hp → Prop} (h : tT G Wx (fun τ o => asT (bnd (asT (vb τ o)) fun k' o2 => .ok (wd (.bl k')) o2)) σ H Q) : tT G Wx (fun τ o => asT (vb τ o)) σ H Q := by
  have e : (fun τ o => asT (bnd (asT (vb τ o)) fun k' o2 => .ok (wd (.bl k')) o2)) = fun τ o => asT (vb τ o) := by
    funext τ o
    cases asT (vb τ o) <;> rfl
  rw [e] at h
  exact h
theorem pw_andE (ha : PT X a (tT G Wx fun τ o => asT (va τ o))) (hb : PW X (.BoolOp .And (b :: rest) pos) (tT G Wx fun τ o => asT (vb τ o))) : PW X (.BoolOp .And (a :: b :: rest) pos) (tT G Wx fun τ o => asT (andR va vb τ o)) :=
  PW.weak (pw_and ha hb) fun σ H Q h => by
    have e : (fun τ o => asT (andR va vb τ o)) = fun τ o => bnd (asT (va τ o)) fun k o1 => asT (if k then bnd (asT (vb τ o1)) fun k' o2 => .ok (wd (.bl k')) o2 else .ok (wd (.bl false)) o1) := by
      funext τ o; unfold andR asT; rw [bnd_assoc]
    rw [e] at h
    refine (tTT_bnd (f := fun τ k o1 => asT (if k then bnd (asT (vb τ o1)) fun k' o2 => .ok (wd (.bl k')) o2 else .ok (wd (.bl false)) o1)) h).mono fun k H1 q => ?_
    cases k with
    | true => exact tT_again q
    | false => exact tT_ok q
theorem pw_orE (ha : PT X a (tT G Wx fun τ o => asT (va τ o))) (hb : PW X (.BoolOp .Or (b :: rest) pos) (tT G Wx fun τ o => asT (vb τ o))) : PW X (.BoolOp .Or (a :: b :: rest) pos) (tT G Wx fun τ o => asT (orR va vb τ o)) :=
  PW.weak (pw_or ha hb) fun σ H Q h => by
    have e : (fun τ o => asT (orR va vb τ o)) = fun τ o => bnd (asT (va τ o)) fun k o1 => asT (if k then .ok (wd (.bl true)) o1 else bnd (asT (vb τ o1)) fun k' o2 => .ok (wd (.bl k')) o2) := by
      funext τ o; unfold orR asT; rw [bnd_assoc]
    rw [e] at h
    refine (tTT_bnd (f := fun τ k o1 => asT (if k then .ok (wd (.bl true)) o1 else bnd (asT (vb τ o1)) fun k' o2 => .ok (wd (.bl k')) o2)) h).mono fun k H1 q => ?_
    cases k with
    | true => exact tT_ok q
    | false => exact tT_again q
/-- the rest of a chain of and | or: its last one, or a chain -/
structure Ch (G : Gx) (X : L2.Cx) (Wx : WX) (op : BoolOp) (vs : List Expr) (pos : Pos) (r : Sg → List Ob → R Val) : Prop where
  pe : PE X (.BoolOp op vs pos) (tE G Wx r)
  pw : PW X (.BoolOp op vs pos) (tT G Wx fun τ o => asT (r τ o))
theorem Ch.one {op : BoolOp} (h : EE G X Wx a va) (hi : isIfExp a = false) : Ch G X Wx op [a] pos va := ⟨pe_one h.pe, by cases op; exact pw_and1 (h.pt hi); exact pw_or1 (h.pt hi)⟩
theorem Ch.more {op : BoolOp} {vs : List Expr} (h : EE G X Wx (.BoolOp op vs pos) va) : Ch G X Wx op vs pos va := ⟨h.pe, h.pw rfl⟩
theorem ee_and (ha : EE G X Wx a va) (hi : isIfExp a = false) (hb : Ch G X Wx .And (b :: rest) pos vb) : EE G X Wx (.BoolOp .And (a :: b :: rest) pos) (andR va vb) :=
  ⟨pe_andE ha hb.pe, fun _ => (pw_andE (ha.pt hi) hb.pw).pt, fun _ => pw_andE (ha.pt hi) hb.pw⟩
theorem ee_or (ha : EE G X Wx a va) (hi : isIfExp a = false) (hb : Ch G X Wx .Or (b :: rest) pos vb) : EE G X Wx (.BoolOp .Or (a :: b :: rest) pos) (orR va vb) :=
  ⟨pe_orE ha hb.pe, fun _ => (pw_orE (ha.pt hi) hb.pw).pt, fun _ => pw_orE (ha.pt hi) hb.pw⟩
theorem ee_not (ha : EE G X Wx a va) (hi : isIfExp a = false) : EE G X Wx (.UnaryOp .Not a pos) (notR va) := by
  refine ⟨PE.weak (pe_not ha.pe) fun σ H Q h => ?_, fun _ => PT.weak (pt_not (ha.pt hi)) fun σ H Q h => ?_, fun z => by simp [isBoolOp] at z⟩
  · have h1 := tT_bnd (f := fun _ k o1 => .ok (wd (.bl (!k))) o1) h
    exact tB_of' (h1.mono fun k H1 q => tE_bl q)
  · have e : (fun τ o => asT (notR va τ o)) = fun τ o => bnd (asT (va τ o)) fun k o1 => asT (.ok (wd (.bl (!k))) o1) := by
      funext τ o; unfold notR asT; rw [bnd_assoc]
    rw [e] at h
    exact (tTT_bnd (f := fun _ k o1 => asT (.ok (wd (.bl (!k))) o1)) h).mono fun k H1 q => tT_ok q
theorem ee_ite (hc : EE G X Wx c vc) (hi : isIfExp c = false) (ha : EE G X Wx a va) (hb : EE G X Wx b vb) : EE G X Wx (.IfExp c a b pos) (fun τ o => bnd (asT (vc τ o)) fun k o1 => if k then va τ o1 else vb τ o1) := by
  refine ⟨PE.weak (pe_ifExp (hc.pt hi) ha.pe hb.pe) fun σ H Q h => ?_, fun z => by simp [isIfExp] at z, fun z => by simp [isBoolOp] at z⟩
  have h1 := tT_bnd (f := fun τ k o1 => if k then va τ o1 else vb τ o1) h
  refine h1.mono fun k H1 q => ?_
  cases k with
  | true => exact q
  | false => exact q
/-! ### comparisons -/
theorem ee_cmp {op : CmpOp} (ho : OpR X (compareOp op) (rW2 G (cmpW cx op))) (hm : behindInMarks op b = false) (ha : EE G X Wx a va) (hb : EE G X Wx b vb) :
    EE G X Wx (.Compare a [op] [b] pos) (fun τ o => bnd (asW (va τ o)) fun x o1 => bnd (asW (vb τ o1)) fun y o2 => cmpW cx op x y o2) := by
  have key : ∀ (σ : L2.St) (H : Hp) (Q : VK), tE G Wx (fun τ o => bnd (asW (va τ o)) fun x o1 => bnd (asW (vb τ o1)) fun y o2 => cmpW cx op x y o2) σ H Q →
      tOp (rW2 G (cmpW cx op)) (tW G Wx fun τ o => asW (va τ o)) (tW G Wx fun τ o => asW (vb τ o)) σ H Q := fun σ H Q h =>
    (tW_two (f := fun _ => cmpW cx op) h).mono fun _ _ h1 => h1.mono fun _ _ ⟨ρ, o, τ, x, y, a, rx, ry, h2⟩ => by
      cases z : cmpW cx op x y o with
      | ok val o' => rw [z] at h2; exact ⟨ρ, o, x, y, val, o', a.ob, rx, ry, z, h2⟩
      | exc e o' => exact absurd z cmpW_ne
      | bad => rw [z] at h2; exact h2.elim
  have hpe : PE X (.Compare a [op] [b] pos) (tE G Wx fun τ o => bnd (asW (va τ o)) fun x o1 => bnd (asW (vb τ o1)) fun y o2 => cmpW cx op x y o2) := PE.weak (pe_cmpR ho ha.w hb.w hm) key
  refine ⟨hpe, fun _ => pt_of (PT.weak (pt_cmpR ho ha.w hb.w hm) fun σ H Q h => key σ H _ h), fun z => by simp [isBoolOp] at z⟩
theorem op_iscN (neg : Bool) : OpR X (compareOp (if neg then .IsNot else .Is)) (fun x y H Q => y = .non ∧ ∃ ρ o w val o', Obs G ρ ρ H o ∧ RW G ρ ρ H w x ∧ iscW neg .non w o = .ok val o' ∧ WantV G ρ H Q val o') := by
  intro pins s σ H x y v u Q I rx ry h
  obtain ⟨rfl, ρ, o, w, val, o', b, hw, e, wt⟩ := h
  have key : o' = o ∧ val = wd (.bl (if neg then !decide (x = .non) else decide (x = .non))) := by
    cases w with
    | loc n =>
      obtain ⟨a, _, rfl⟩ := hw
      simp only [iscW, R.ok.injEq] at e
      obtain ⟨rfl, rfl⟩ := e
      cases neg <;> exact ⟨rfl, rfl⟩
    | d p =>
      cases hw <;> (simp [iscW, iscD, okO] at e; obtain ⟨rfl, rfl⟩ := e; cases neg <;> exact ⟨rfl, rfl⟩)
  obtain ⟨rfl, rfl⟩ := key
  cases neg with
  | true => exact op_notN pins s σ H x _ v u Q I rx ry ⟨rfl, wt _ _ (post_same b (.bl _))⟩
  | false => exact op_isN pins s σ H x _ v u Q I rx ry ⟨rfl, wt _ _ (post_same b (.bl _))⟩
theorem op_iscB (neg : Bool) (k : Bool) : OpR X (compareOp (if neg then .IsNot else .Is)) (fun x y H Q => y = .bl k ∧ ∃ ρ o w val o', Obs G ρ ρ H o ∧ RW G ρ ρ H w x ∧ iscW neg (.bl k) w o = .ok val o' ∧ WantV G ρ H Q val o') := by
  intro pins s σ H x y v u Q I rx ry h
  obtain ⟨rfl, ρ, o, w, val, o', b, hw, e, wt⟩ := h
  cases w with
  | loc n => simp [iscW] at e
  | d p =>
    cases hw <;> first | (simp [iscW, iscD, okO] at e; done) | skip
    rename_i j
    simp [iscW, iscD, okO] at e
    obtain ⟨rfl, rfl⟩ := e
    have e1 : decide (j = k) = (j == k) := by cases j <;> cases k <;> rfl
    have e2 : (!decide (j = k)) = (!(j == k)) := by rw [e1]
    cases neg with
    | true => exact op_notBl pins s σ H _ _ v u Q I rx ry ⟨j, k, rfl, rfl, by rw [e2]; exact wt _ _ (post_same b (.bl _))⟩
    | false => exact op_isBl pins s σ H _ _ v u Q I rx ry ⟨j, k, rfl, rfl, by rw [e1]; exact wt _ _ (post_same b (.bl _))⟩
theorem ee_isc {op : CmpOp} {neg : Bool} {d : D} {cv : V} {j : Nat} {pc : Pos} {ct : Const} (hop : op = if neg then .IsNot else .Is) (hc : PE X (.Constant ct j pc) (tC cv))
    (ho : OpR X (compareOp op) (fun x y H Q => y = cv ∧ ∃ ρ o w val o', Obs G ρ ρ H o ∧ RW G ρ ρ H w x ∧ iscW neg d w o = .ok val o' ∧ WantV G ρ H Q val o')) (ha : EE G X Wx a va) :
    EE G X Wx (.Compare a [op] [.Constant ct j pc] pos) (fun τ o => bnd (asW (va τ o)) fun x o1 => iscW neg d x o1) := by
  have hm : behindInMarks op (.Constant ct j pc) = false := rfl
  have key : ∀ (σ : L2.St) (H : Hp) (Q : VK), tE G Wx (fun τ o => bnd (asW (va τ o)) fun x o1 => iscW neg d x o1) σ H Q →
      tOp (fun x y H Q => y = cv ∧ ∃ ρ o w val o', Obs G ρ ρ H o ∧ RW G ρ ρ H w x ∧ iscW neg d w o = .ok val o' ∧ WantV G ρ H Q val o') (tW G Wx fun τ o => asW (va τ o)) (tC cv) σ H Q := fun σ H Q h =>
    (tW_one (f := fun _ => iscW neg d) h).mono fun _ _ ⟨ρ, o, τ, x, a, rx, h2⟩ => by
      cases z : iscW neg d x o with
      | ok val o' => rw [z] at h2; exact ⟨rfl, ρ, o, x, val, o', a.ob, rx, z, h2⟩
      | exc e o' =>
        exfalso
        unfold iscW okO at z
        split at z
        · split at z <;> cases z
        · split at z <;> cases z
      | bad => rw [z] at h2; exact h2.elim
  exact ⟨PE.weak (pe_cmpR ho ha.w hc hm) key, fun _ => pt_of (PT.weak (pt_cmpR ho ha.w hc hm) fun σ H Q h => key σ H _ h), fun z => by simp [isBoolOp] at z⟩
end
end Mi
end
section
set_option linter.all false
set_option Elab.async false
set_option maxHeartbeats 2000000
set_option autoImplicit false
namespace Mi
open PySem L2
section
variable {G : Gx} {X : L2.Cx} {Wx : WX} {pos : Pos} {a b c e : Expr} {es : List Expr} {r : Sg → List Ob → R (List W)} {va vb vc : Sg → List Ob → R Val} {cx : Cx}
/-! ### arguments -/
def isStar : Expr → Bool
  | .Starred _ _ => true
  | _ => false
theorem starEach_ok (h : isStar e = false) (env : Env) : starEach (e :: es) env = (false, eval e env) :: starEach es env := by
  cases e <;> first | rfl | (simp [isStar] at h)
theorem starEach_all {env : Env} : ∀ {es : List Expr}, es.all (fun e => !isStar e) = true → (starEach es env).any (·.1) = false
  | [], _ => rfl
  | e :: es, h => by
    simp at h
    rw [starEach_ok h.1]
    simp only [List.any_cons, Bool.false_or]
    exact starEach_all (by simpa using h.2)
theorem pa_nilD : PA X [] (tA G Wx fun _ o => .ok [] o) := PA.weak pa_nil fun σ H Q ⟨ρ, τ, o, b, l, h⟩ => h [] H ⟨ρ, List.prefix_rfl, Stp.refl, b, .nil⟩
theorem tA_cons {σ : L2.St} {H : Hp} {Q : List V → Hp → Prop} {ra : Sg → List Ob → R W} (h : tA G Wx (fun τ o => bnd (ra τ o) fun w o1 => bnd (r τ o1) fun ws o2 => .ok (w :: ws) o2) σ H Q) :
    tW G Wx ra σ H fun v H1 => tA G Wx r σ H1 fun vs H2 => Q (v :: vs) H2 := by
  obtain ⟨ρ, τ, o, b, l, h⟩ := h
  refine ⟨ρ, τ, o, b, l, h.bnd.mono fun w o1 q v H1 hp => ?_⟩
  obtain ⟨ρ1, p, s, b1, rw⟩ := hp
  refine ⟨ρ1, τ, o1, b1, l.step p s b.zm, q.bnd.lift p s fun ws o2 q vs H2 hp => ?_⟩
  obtain ⟨ρ2, p2, s2, b2, r2⟩ := hp
  exact q _ _ ⟨ρ2, p.trans p2, s.trans s2, b2, .cons (rw.step p2 s2 b1.zm) r2⟩
theorem pa_consD (ha : EE G X Wx a va) (hs : isStar a = false) (hr : PA X es (tA G Wx r)) : PA X (a :: es) (tA G Wx fun τ o => bnd (asW (va τ o)) fun w o1 => bnd (r τ o1) fun ws o2 => .ok (w :: ws) o2) :=
  PA.weak (pa_cons ha.w hr (starEach_ok hs X.env)) fun σ H Q h => tA_cons h
/-! ### displays -/
def tTupF (t : TA) : TE := fun σ H Q => t σ H fun xs H1 => xs.length ≤ sizeLine ∧ ∀ p ob, H1 p = none → ob.dict = none → Q (.ref p) (upd H1 p (.frz ob (.tup xs)))
theorem pe_tupF {x1 : Nat} {t : TA} (h : PA X es t) : PE X (.Tuple es x1 pos) (tTupF t) := by
  refine ⟨fun pins s σ H Q I hq => ?_⟩
  refine wpAny_Tuple_spliced (thn (h.run pos pins s σ H _ I hq) fun us s1 ⟨xs, H1, I1, r, z, q⟩ => ⟨by rw [← r.length]; exact z, ?_⟩)
  exact ⟨.ref s1.heap.objs.size, _, Inv.newT (t' := s1.toks) I1 r z, rfl, q _ _ (I1.hok.fresh (Nat.le_refl _)) rfl⟩
theorem ee_tup {x1 : Nat} (h : PA X es (tA G Wx r)) : EE G X Wx (.Tuple es x1 pos) (fun τ o => bnd (r τ o) fun ws o1 => tupR ws o1) := EE.of (PE.weak (pe_tupF h) fun σ H Q q => by
  refine (tA_one (f := fun _ => tupR) q).mono fun vs H1 ⟨ρ, o, τ, ws, a, rw, q⟩ => ?_
  unfold tupR at q
  cases z : allD ws with
  | none => simp only [z] at q; exact q.elim
  | some xs =>
    simp only [z] at q
    split at q
    · rename_i hl
      have hl2 := rw.length
      exact ⟨by rw [← hl2, ← line_eq]; exact hl, fun p ob hn hd => q _ _ (post_tup a.ob hn hd (rds_of z rw))⟩
    · exact q.elim) rfl
theorem ee_lst (h : PA X es (tA G Wx r)) : EE G X Wx (.List es pos) (fun τ o => bnd (r τ o) fun ws o1 => lstR ws o1) := EE.of (PE.weak (pe_lst h) fun σ H Q q => by
  refine (tA_one (f := fun _ => lstR) q).mono fun vs H1 ⟨ρ, o, τ, ws, a, rw, q⟩ => ?_
  unfold lstR at q
  split at q
  · rename_i hl
    have hl2 := rw.length
    exact ⟨by rw [← hl2, ← line_eq]; exact hl, fun p hn => q _ _ (post_lstW a.ob hn rw)⟩
  · exact q.elim) rfl
/-! ### a list put into the store -/
theorem post_alloc {ρ : List Addr} {H H1 : Hp} {ws : List W} {o : List Ob} {v : V} (h : PostV G ρ H (.fl ws) o v H1) : PostV G ρ H (.w (.loc o.length)) (o ++ [.lst ws]) v H1 := by
  obtain ⟨ρ', p, a, vs, rfl, n, ha, s, b, r⟩ := h
  have hlen : ρ'.length = o.length := b.len
  have pre : ρ' <+: ρ' ++ [a] := List.prefix_append _ _
  have mm : ∀ c ∈ a :: ρ', c ∈ ρ' ++ [a] := fun c m => by
    rcases List.mem_cons.mp m with e | m
    · rw [e]; exact List.mem_append_right _ (by simp)
    · exact List.mem_append_left _ m
  have mm2 : ∀ c ∈ ρ' ++ [a], c ∈ a :: ρ' := fun c m => by
    rcases List.mem_append.mp m with m | m
    · exact List.mem_cons_of_mem _ m
    · have : c = a := by simpa using m
      rw [this]; exact List.mem_cons_self
  have st : Stp (a :: ρ') H1 (ρ' ++ [a]) H1 := Stp.sub Stp.refl mm2
  refine ⟨ρ' ++ [a], p.trans pre, s.sub mm2, ⟨fun c m => m, ?_, by simp [hlen], fun c m => b.zm c (mm2 c m), fun k u c e q => ?_, fun c m => ⟨(b.av c m).1, fun z => (b.av c m).2 (mm2 c z)⟩, fun e he => (b.er e he).less mm2⟩, a, ?_, rfl⟩
  · rw [List.nodup_append]
    exact ⟨b.nd, by simp, fun x hx y hy e => n (by have : y = a := by simpa using hy
                                                   rw [← this, ← e]; exact hx)⟩
  · by_cases hk : k < o.length
    · rw [List.getElem?_append_left hk] at e
      rw [List.getElem?_append_left (by rw [hlen]; exact hk)] at q
      exact (b.ob k u c e q).to (fun _ e => e) (fun _ _ _ r => RW.step pre st b.zm r) (fun _ t => t) rfl rfl rfl rfl rfl
    · have hk2 : k = o.length := by
        have := (List.getElem?_eq_some_iff.mp e).1
        simp at this
        omega
      subst hk2
      rw [List.getElem?_append_right (Nat.le_refl _)] at e
      rw [List.getElem?_append_right (by rw [hlen]; exact Nat.le_refl _), hlen] at q
      simp at e q
      subst e q
      refine ⟨vs, ha, RWs.step pre st b.zm r, fun w hw => ?_⟩
      cases w with
      | d x => trivial
      | loc j =>
        show j < o.length
        have go : ∀ {ws : List W} {vs : List V}, RWs G ρ' (a :: ρ') H1 ws vs → W.loc j ∈ ws → j < o.length := by
          intro ws vs rr
          induction rr with
          | nil => intro m; cases m
          | cons h t ih =>
            intro m
            rcases List.mem_cons.mp m with e | m
            · subst e
              obtain ⟨c, hc, _⟩ := h
              rw [← hlen]; exact (List.getElem?_eq_some_iff.mp hc).1
            · exact ih m
        exact go r hw
  · rw [← hlen, List.getElem?_append_right (Nat.le_refl _)]
    simp
theorem tE_alloc {σ : L2.St} {H : Hp} {Q : VK} (h : tE G Wx (fun τ o => bnd (va τ o) allocR) σ H Q) : tE G Wx va σ H Q := by
  obtain ⟨ρ, τ, o, b, l, h⟩ := h
  refine ⟨ρ, τ, o, b, l, h.bnd.mono fun val o1 q v H1 hp => ?_⟩
  cases val with
  | w w => exact q.elim
  | fl ws => exact q v H1 (post_alloc hp)
theorem ee_alloc (h : EE G X Wx e va) (hd : dflt e = true) : EE G X Wx e (fun τ o => bnd (va τ o) allocR) := EE.of (PE.weak h.pe fun σ H Q q => tE_alloc q) hd
/-! ### subscripts, attributes -/
def isSlice : Expr → Bool
  | .Slice _ _ _ _ => true
  | _ => false
theorem plainIx (h : isSlice b = false) : PlainIx b := fun o i => by
  cases b <;> first | rfl | (simp [isSlice] at h)
theorem ixN_eq (n : Nat) (i : Int) : ixN n i = L2.ixN n i := rfl
theorem atI_eq {α : Type} (xs : List α) (i : Int) : atI xs i = L2.atI xs i := by
  unfold atI L2.atI
  rw [ixN_eq]
  cases L2.ixN xs.length i <;> rfl
theorem ixN_len {n m : Nat} (h : n = m) (i : Int) : ixN n i = ixN m i := by rw [h]
theorem rds_at {zs : List Addr} {H : Hp} {xs : List D} {vs : List V} {i : Int} {x : D} (r : RDs G zs H xs vs) (e : atI xs i = some x) : ∃ v, L2.atI vs i = some v ∧ RD G zs H x v := by
  rw [← atI_eq]
  unfold atI at e ⊢
  rw [← r.length]
  cases z : ixN xs.length i with
  | none => rw [z] at e; cases e
  | some j => rw [z] at e; exact r.get e
theorem rws_get {ρ zs : List Addr} {H : Hp} : ∀ {ws : List W} {vs : List V}, RWs G ρ zs H ws vs → ∀ {i : Nat} {w : W}, ws[i]? = some w → ∃ v, vs[i]? = some v ∧ RW G ρ zs H w v
  | _, _, .nil, i, x, e => by simp at e
  | _, _, .cons h r, 0, x, e => by simp at e; subst e; exact ⟨_, rfl, h⟩
  | _, _, .cons h r, i + 1, x, e => by
    obtain ⟨v, e1, e2⟩ := rws_get r (i := i) (w := x) (by simpa using e)
    exact ⟨v, by simpa using e1, e2⟩
theorem rws_at {ρ zs : List Addr} {H : Hp} {xs : List W} {vs : List V} {i : Int} {x : W} (r : RWs G ρ zs H xs vs) (e : atI xs i = some x) : ∃ v, L2.atI vs i = some v ∧ RW G ρ zs H x v := by
  rw [← atI_eq]
  unfold atI at e ⊢
  rw [← r.length]
  cases z : ixN xs.length i with
  | none => rw [z] at e; cases e
  | some j => rw [z] at e; exact rws_get r e
def rIdxW (G : Gx) : R2 := fun x y H Q => ∃ ρ o wx wy val o', Obs G ρ ρ H o ∧ RW G ρ ρ H wx x ∧ RW G ρ ρ H wy y ∧ idxR wx wy o = .ok val o' ∧ WantV G ρ H Q val o'
theorem ix_W (hK : X.K = G.K) : IxR X (rIdxW G) := by
  intro value slice pins s σ H x y v u Q I rx ry h hs
  obtain ⟨ρ, o, wx, wy, val, o', b, hx, hy, e, w⟩ := h
  unfold idxR at e
  cases z : view o wy with
  | none => simp [z] at e
  | some k =>
    simp only [z] at e
    have hk := view_ok b z hy
    cases wx with
    | d p =>
      cases p with
      | tup xs =>
        cases k <;> first | (simp [idxW, okO] at e; done) | skip
        cases hk
        rename_i i
        cases z2 : atI xs i with
        | none => simp [idxW, okO, z2] at e
        | some x =>
          simp [idxW, okO, z2] at e
          obtain ⟨rfl, rfl⟩ := e
          cases hx with
          | tup ha da ra =>
            obtain ⟨v', e1, e2⟩ := rds_at ra z2
            exact ix_tup value slice pins s σ H _ _ v u Q I rx ry ⟨_, _, i, v', rfl, rfl, sqT_frz ha, e1, w _ _ (post_same b e2)⟩ hs
      | lst xs =>
        cases k <;> first | (simp [idxW, okO] at e; done) | skip
        cases hk
        rename_i i
        cases z2 : atI xs i with
        | none => simp [idxW, okO, z2] at e
        | some x =>
          simp [idxW, okO, z2] at e
          obtain ⟨rfl, rfl⟩ := e
          cases hx with
          | lst ha na ra =>
            obtain ⟨v', e1, e2⟩ := rds_at ra z2
            exact ix_list value slice pins s σ H _ _ v u Q I rx ry ⟨_, _, i, v', rfl, rfl, .inl ha, e1, w _ _ (post_same b e2)⟩ hs
      | _ => cases k <;> simp [idxW, okO] at e
    | loc n =>
      obtain ⟨a, ea, rfl⟩ := hx
      cases k <;> first | (simp [idxW, okO] at e; done) | skip
      cases hk
      rename_i i
      cases q : o[n]? with
      | none => simp [idxW, okO, q] at e
      | some ob =>
        have rb := b.ob n ob a q ea
        cases ob with
        | lst ws =>
          obtain ⟨vs, ha, rw, _⟩ := rb
          cases z2 : atI ws i with
          | none => simp [idxW, okO, q, z2] at e
          | some x =>
            simp [idxW, okO, q, z2] at e
            obtain ⟨rfl, rfl⟩ := e
            obtain ⟨v', e1, e2⟩ := rws_at rw z2
            exact ix_list value slice pins s σ H _ _ v u Q I rx ry ⟨_, _, i, v', rfl, rfl, SqL.of ha, e1, w _ _ ⟨ρ, List.prefix_rfl, Stp.refl, b, e2⟩⟩ hs
        | _ => simp [idxW, okO, q] at e
theorem idxR_ne {x y : W} {o o1 : List Ob} {e : Ex} : idxR x y o ≠ .exc e o1 := by
  unfold idxR okO
  split
  · split <;> (intro h; cases h)
  · intro h; cases h
theorem ee_idx (hK : X.K = G.K) (hs : isSlice b = false) (ha : EE G X Wx a va) (hb : EE G X Wx b vb) : EE G X Wx (.Subscript a b pos) (fun τ o => bnd (asW (va τ o)) fun x o1 => bnd (asW (vb τ o1)) fun y o2 => idxR x y o2) :=
  EE.of (PE.weak (pe_ix (ix_W hK) ha.w hb.w (plainIx hs)) fun σ H Q h => (tW_two (f := fun _ => idxR) h).mono fun _ _ h1 => h1.mono fun _ _ ⟨ρ, o, τ, x, y, a, rx, ry, h2⟩ => by
    cases z : idxR x y o with
    | ok val o' => rw [z] at h2; exact ⟨ρ, o, x, y, val, o', a.ob, rx, ry, z, h2⟩
    | exc e o' => exact absurd z idxR_ne
    | bad => rw [z] at h2; exact h2.elim) rfl
def noArgs : Expr → Bool
  | .Call _ [] [] _ => false
  | _ => true
theorem attrBase {o : Expr} {f : Str} {env : Env} (h : noArgs o = true) (w : Sem Value) : attributeBase o f env w = w := by
  unfold attributeBase
  cases o <;> first | rfl | skip
  rename_i fn args kws p
  cases fn <;> first | rfl | skip
  cases args <;> first | rfl | skip
  cases kws <;> first | rfl | (simp [noArgs] at h)
/-- what is known of the plain classes -/
structure ClsOk (G : Gx) : Prop where
  cls : ∀ c C, G.ga c = some C → G.isC c = true → Cls G.K C
  noat : ∀ c C, G.ga c = some C → G.isC c = true → ∀ (k : Nat) (n : Str), G.names[k]? = some n → NoAttr G.K C n
  nd : G.names.Nodup
  ty : ∀ c C, G.ga c = some C → G.isC c = true → PySem.W.findIn G.K (.ref C) "__class__" = some (some (.builtin "object.__class__")) ∧ PySem.W.specialIn G.K (.builtin "object.__class__") "__get__" = some (some (.builtin "getset_descriptor.__get__")) ∧
    PySem.W.takesIn G.K (.builtin "object.__class__") = some true ∧ PySem.W.mroIn G.K C (.type "object") = some true
  kt : ∀ c C, G.ga c = some C → G.isC c = true → ∀ T ∈ ["int", "bool", "str", "tuple", "list"], PySem.W.kitOne G.K (.ref C) (.type T) = some false
  ko : ∀ c C, G.ga c = some C → G.isC c = true → ∀ T ∈ ["NoneType", "int", "bool", "str", "tuple", "list", "dict"], PySem.W.kitOne G.K (.type T) (.ref C) = some false
  kk : ∀ c C c' C', G.ga c = some C → G.isC c = true → G.ga c' = some C' → G.isC c' = true → PySem.W.kitOne G.K (.ref C') (.ref C) = some (c' == c)
theorem names_inj (h : G.names.Nodup) {i j : Nat} {n : Str} (a : G.names[i]? = some n) (b : G.names[j]? = some n) : i = j := by
  obtain ⟨h1, e1⟩ := List.getElem?_eq_some_iff.mp a
  obtain ⟨h2, e2⟩ := List.getElem?_eq_some_iff.mp b
  exact (List.getElem_inj h).mp (e1.trans e2.symm)
theorem rdf_look (hn : G.names.Nodup) {zs : List Addr} {H : Hp} {f : Nat} {n : Str} (hf : G.names[f]? = some n) : ∀ {fs : List (Nat × D)} {fv : List (Str × V)} {x : D}, RDf G zs H fs fv → lookN f fs = some x → ∃ v, fv.lookup n = some v ∧ RD G zs H x v
  | [], _, _, .nil, e => by simp [lookN] at e
  | (k, y) :: fs, _, x, .cons (n := m) (v := w) hk hy r, e => by
    by_cases z : k = f
    · subst z
      simp [lookN] at e; subst e
      have : m = n := by rw [hk] at hf; exact Option.some.inj hf
      subst this
      exact ⟨w, by simp [List.lookup], hy⟩
    · have hne : n ≠ m := fun q => z (names_inj hn hk (q ▸ hf))
      simp [lookN, z] at e
      obtain ⟨v, e1, e2⟩ := rdf_look hn hf r e
      refine ⟨v, ?_, e2⟩
      rw [List.lookup_cons]
      have : (n == m) = false := by simpa using hne
      rw [this]
      exact e1
theorem rwf_look (hn : G.names.Nodup) {ρ zs : List Addr} {H : Hp} {f : Nat} {n : Str} (hf : G.names[f]? = some n) : ∀ {fs : List (Nat × W)} {fv : List (Str × V)} {x : W}, RWf G ρ zs H fs fv → lookN f fs = some x → ∃ v, fv.lookup n = some v ∧ RW G ρ zs H x v
  | [], _, _, .nil, e => by simp [lookN] at e
  | (k, y) :: fs, (m, w) :: fv, x, .cons hk r, e => by
    obtain ⟨hk, hy⟩ := hk
    by_cases z : k = f
    · subst z
      simp [lookN] at e; subst e
      have : m = n := by rw [hk] at hf; exact Option.some.inj hf
      subst this
      exact ⟨w, by simp [List.lookup], hy⟩
    · have hne : n ≠ m := fun q => z (names_inj hn hk (q ▸ hf))
      simp [lookN, z] at e
      obtain ⟨v, e1, e2⟩ := rwf_look hn hf r e
      refine ⟨v, ?_, e2⟩
      rw [List.lookup_cons]
      have : (n == m) = false := by simpa using hne
      rw [this]
      exact e1
theorem ee_attr (hK : X.K = G.K) (C : ClsOk G) {f : Nat} {n : Str} (hf : G.names[f]? = some n) (hn : noArgs a = true) (ha : EE G X Wx a va) : EE G X Wx (.Attribute a n pos) (fun τ o => bnd (asW (va τ o)) fun x o1 => okO ((attrW o1 x f).map .w) o1) :=
  EE.of (PE.weak (pe_fld ha.w (attrBase hn _)) fun σ H Q h => (tW_one (f := fun _ x o => okO ((attrW o x f).map .w) o) h).mono fun v H1 ⟨ρ, o, τ, x, a, rx, h2⟩ => by
    obtain ⟨val, e, q⟩ := RP.okO h2
    cases x with
    | d p =>
      cases p <;> first | (simp [attrW] at e; done) | skip
      rename_i c fs
      cases z : lookN f fs with
      | none => simp [attrW, z] at e
      | some y =>
        simp [attrW, z] at e; subst e
        cases rx with
        | obj ha' na hc rf =>
          obtain ⟨v', e1, e2⟩ := rdf_look C.nd hf rf z
          exact ⟨_, _, _, _, v', rfl, ha', by rw [hK]; exact C.cls _ _ hc.1 hc.2, by rw [hK]; exact C.noat _ _ hc.1 hc.2 _ _ hf, e1, q _ _ (post_same a.ob e2)⟩
    | loc k =>
      obtain ⟨ad, ea, rfl⟩ := rx
      cases q1 : o[k]? with
      | none => simp [attrW, q1] at e
      | some ob =>
        have rb := a.ob.ob k ob ad q1 ea
        cases ob with
        | ins c fs =>
          obtain ⟨C1, dx, fv, ha', hc, rf, _⟩ := rb
          cases z : lookN f fs with
          | none => simp [attrW, q1, z] at e
          | some y =>
            simp [attrW, q1, z] at e; subst e
            obtain ⟨v', e1, e2⟩ := rwf_look C.nd hf rf z
            exact ⟨_, _, _, _, v', rfl, ha', by rw [hK]; exact C.cls _ _ hc.1 hc.2, by rw [hK]; exact C.noat _ _ hc.1 hc.2 _ _ hf, e1, q _ _ ⟨ρ, List.prefix_rfl, Stp.refl, a.ob, e2⟩⟩
        | _ => simp [attrW, q1] at e) rfl
end
end Mi
end
section
set_option linter.all false
set_option Elab.async false
set_option maxHeartbeats 2000000
set_option autoImplicit false
namespace Mi
open PySem L2
/-! ### built-in functions on data -/
theorem insI_perm (x : Int) : ∀ ys : List Int, (insI x ys).Perm (x :: ys)
  | [] => .refl _
  | y :: ys => by
    unfold insI
    split
    · exact .refl _
    · exact ((insI_perm x ys).cons y).trans (.swap x y ys)
theorem sortI_perm : ∀ xs : List Int, (sortI xs).Perm xs
  | [] => .refl _
  | x :: xs => (insI_perm x (sortI xs)).trans ((sortI_perm xs).cons x)
theorem insI_sorted (x : Int) : ∀ {ys : List Int}, ys.Pairwise (· ≤ ·) → (insI x ys).Pairwise (· ≤ ·)
  | [], _ => by simp [insI]
  | y :: ys, h => by
    unfold insI
    rw [List.pairwise_cons] at h
    split
    · rename_i hxy
      rw [List.pairwise_cons, List.pairwise_cons]
      refine ⟨fun z hz => ?_, h⟩
      rcases List.mem_cons.mp hz with e | m
      · rw [e]; exact hxy
      · exact Int.le_trans hxy (h.1 z m)
    · rename_i hxy
      rw [List.pairwise_cons]
      refine ⟨fun z hz => ?_, insI_sorted x h.2⟩
      rcases List.mem_cons.mp ((insI_perm x ys).mem_iff.mp hz) with e | m
      · rw [e]; omega
      · exact h.1 z m
theorem sortI_sorted : ∀ xs : List Int, (sortI xs).Pairwise (· ≤ ·)
  | [] => .nil
  | x :: xs => insI_sorted x (sortI_sorted xs)
theorem sorted_eq : ∀ {xs ys : List Int}, xs.Perm ys → xs.Pairwise (· ≤ ·) → ys.Pairwise (· ≤ ·) → xs = ys
  | [], ys, p, _, _ => by rw [List.Perm.eq_nil p.symm]
  | x :: xs, ys, p, h1, h2 => by
    cases ys with
    | nil => exact absurd p.length_eq (by simp)
    | cons y ys =>
      rw [List.pairwise_cons] at h1 h2
      have e : x = y := by
        have m1 : x ∈ y :: ys := p.mem_iff.mp List.mem_cons_self
        have m2 : y ∈ x :: xs := p.symm.mem_iff.mp List.mem_cons_self
        rcases List.mem_cons.mp m1 with e | m1
        · exact e
        · rcases List.mem_cons.mp m2 with e | m2
          · exact e.symm
          · have a := h1.1 y m2
            have b := h2.1 x m1
            omega
      subst e
      rw [sorted_eq ((List.perm_cons x).mp p) h1.2 h2.2]
section
variable {G : Gx} {zs ρ : List Addr} {H : Hp}
theorem ints_vals : ∀ {xs : List D} {ns : List Int} {vs : List V}, intsD xs = some ns → RDs G zs H xs vs → vs = ns.map V.int
  | [], _, _, e, .nil => by cases e; rfl
  | x :: xs, ns, _, e, .cons h r => by
    cases x <;> first | (simp [intsD] at e; done) | skip
    cases h
    cases z : intsD xs with
    | none => simp [intsD, z] at e
    | some ms =>
      simp [intsD, z] at e; subst e
      rw [ints_vals z r]; rfl
theorem bools_vals : ∀ {xs : List D} {ns : List Bool} {vs : List V}, boolsD xs = some ns → RDs G zs H xs vs → vs = ns.map V.bl
  | [], _, _, e, .nil => by cases e; rfl
  | x :: xs, ns, _, e, .cons h r => by
    cases x <;> first | (simp [boolsD] at e; done) | skip
    cases h
    cases z : boolsD xs with
    | none => simp [boolsD, z] at e
    | some ms =>
      simp [boolsD, z] at e; subst e
      rw [bools_vals z r]; rfl
theorem rds_ints : ∀ ns : List Int, RDs G zs H (ns.map D.int) (ns.map V.int)
  | [] => .nil
  | n :: ns => .cons (.int n) (rds_ints ns)
theorem maxI_ok {ns : List Int} {m : Int} (h : maxI ns = some m) : m ∈ ns ∧ ∀ y ∈ ns, y ≤ m := by
  have go : ∀ (xs : List Int) (a : Int), (xs.foldl (fun a b => if b > a then b else a) a ∈ a :: xs) ∧ ∀ y ∈ a :: xs, y ≤ xs.foldl (fun a b => if b > a then b else a) a := by
    intro xs
    induction xs with
    | nil => intro a; exact ⟨List.mem_cons_self, fun y hy => by have : y = a := by simpa using hy
                                                                rw [this]; exact Int.le_refl _⟩
    | cons x xs ih =>
      intro a
      obtain ⟨h1, h2⟩ := ih (if x > a then x else a)
      refine ⟨?_, fun y hy => ?_⟩
      · rw [List.foldl_cons]
        rcases List.mem_cons.mp h1 with e | m
        · rw [e]
          split
          · exact List.mem_cons_of_mem _ List.mem_cons_self
          · exact List.mem_cons_self
        · exact List.mem_cons_of_mem _ (List.mem_cons_of_mem _ m)
      · rw [List.foldl_cons]
        have h0 := h2 _ List.mem_cons_self
        rcases List.mem_cons.mp hy with e | m
        · subst e
          refine Int.le_trans ?_ h0
          split <;> omega
        · rcases List.mem_cons.mp m with e | m
          · subst e
            refine Int.le_trans ?_ h0
            split <;> omega
          · exact h2 y (List.mem_cons_of_mem _ m)
  cases ns with
  | nil => simp [maxI] at h
  | cons x xs =>
    simp [maxI] at h
    subst h
    exact go xs x
theorem minI_ok {ns : List Int} {m : Int} (h : minI ns = some m) : m ∈ ns ∧ ∀ y ∈ ns, m ≤ y := by
  have go : ∀ (xs : List Int) (a : Int), (xs.foldl (fun a b => if b < a then b else a) a ∈ a :: xs) ∧ ∀ y ∈ a :: xs, xs.foldl (fun a b => if b < a then b else a) a ≤ y := by
    intro xs
    induction xs with
    | nil => intro a; exact ⟨List.mem_cons_self, fun y hy => by have : y = a := by simpa using hy
                                                                rw [this]; exact Int.le_refl _⟩
    | cons x xs ih =>
      intro a
      obtain ⟨h1, h2⟩ := ih (if x < a then x else a)
      refine ⟨?_, fun y hy => ?_⟩
      · rw [List.foldl_cons]
        rcases List.mem_cons.mp h1 with e | m
        · rw [e]
          split
          · exact List.mem_cons_of_mem _ List.mem_cons_self
          · exact List.mem_cons_self
        · exact List.mem_cons_of_mem _ (List.mem_cons_of_mem _ m)
      · rw [List.foldl_cons]
        have h0 := h2 _ List.mem_cons_self
        rcases List.mem_cons.mp hy with e | m
        · subst e
          refine Int.le_trans h0 ?_
          split <;> omega
        · rcases List.mem_cons.mp m with e | m
          · subst e
            refine Int.le_trans h0 ?_
            split <;> omega
          · exact h2 y (List.mem_cons_of_mem _ m)
  cases ns with
  | nil => simp [minI] at h
  | cons x xs =>
    simp [minI] at h
    subst h
    exact go xs x
end
section
variable {G : Gx} {X : L2.Cx}
/-- a built-in that is told of one value -/
theorem vds1 {ρ : List Addr} {H : Hp} {ds : List D} {xs : List V} (h : VDs G ρ H ds xs) {x : D} (e : ds = [x]) : ∃ v, xs = [v] ∧ VD G ρ H x v := by
  subst e
  cases h with
  | cons h r => cases r; exact ⟨_, rfl, h⟩
theorem cb_len (hK : X.K = G.K) : CallR X (.builtin "len") (rDs G (biD Bi.len)) := by
  intro pins s σ H xs us Q I r h
  obtain ⟨ρ, o, ds, val, b, hv, e, w⟩ := h
  have e : biLen ds = some val := e
  unfold biLen at e
  split at e
  · obtain ⟨v, rfl, a, vs, rfl, ha, rr⟩ := vds1 hv rfl
    cases e
    have hl := rr.length
    exact call_len_seq pins s σ H _ us Q I r ⟨a, vs, rfl, .inl (.inl ha), by rw [← hl]; exact w _ _ (post_same b (.int _))⟩
  · obtain ⟨v, rfl, hd⟩ := vds1 hv rfl
    cases e
    cases hd with
    | tup ha da rr =>
      have hl := rr.length
      exact call_len_seq pins s σ H _ us Q I r ⟨_, _, rfl, .inr (sqT_frz ha), by rw [← hl]; exact w _ _ (post_same b (.int _))⟩
  · obtain ⟨v, rfl, hd⟩ := vds1 hv rfl
    split at e
    · rename_i hz
      cases e
      cases hd
      exact call_len_str pins s σ H _ us Q I r ⟨_, rfl, by rw [← line_eq]; exact hz, w _ _ (post_same b (.int _))⟩
    · cases e
  · cases e
theorem call_tupleF : CallR X (.type "tuple") (fun xs H Q => ∃ p ys, xs = [.ref p] ∧ ((Rd H p (.lst ys) ∧ ∀ l ob, H l = none → ob.dict = none → Q (.ref l) (upd H l (.frz ob (.tup ys)))) ∨ (SqT X.K H p ys ∧ Q (.ref p) H))) := by
  intro pins s σ H xs us Q I r h
  obtain ⟨p, ys, rfl, h⟩ := h
  obtain ⟨u, rfl, rx⟩ := vals1 r
  cases rx
  rcases h with ⟨hq, q⟩ | ⟨hq, q⟩
  · obtain ⟨its, r', pl, hz⟩ := I.list (.inl hq)
    have hlen := r'.length
    refine call_tuple_list pl.isList (fun h' kp => ?_) (by simp only [List.size_toArray] <;> omega)
    have I1 : L2.Inv X pins σ H { s with heap := h' } := I.kept (t' := s.toks) kp
    exact ⟨.ref h'.objs.size, _, Inv.newT (t' := s.toks) I1 r' hz, rfl, q _ _ (I1.hok.fresh (Nat.le_refl _)) rfl⟩
  · obtain ⟨its, r', pl, hz⟩ := I.tuple hq
    exact call_tuple_same pl ⟨.ref p, H, I, rfl, q⟩
theorem cb_tup : CallR X (.type "tuple") (rDs G (biD Bi.tup)) := by
  intro pins s σ H xs us Q I r h
  obtain ⟨ρ, o, ds, val, b, hv, e, w⟩ := h
  have e : biTup ds = some val := e
  unfold biTup at e
  split at e
  · obtain ⟨v, rfl, a, vs, rfl, ha, rr⟩ := vds1 hv rfl
    cases e
    exact call_tupleF pins s σ H _ us Q I r ⟨a, vs, rfl, .inl ⟨ha, fun l ob hn hd => w _ _ (post_tup b hn hd rr)⟩⟩
  · obtain ⟨v, rfl, hd⟩ := vds1 hv rfl
    cases e
    cases hd with
    | tup ha da rr => exact call_tupleF pins s σ H _ us Q I r ⟨_, _, rfl, .inr ⟨sqT_frz ha, w _ _ (post_same b (.tup ha da rr))⟩⟩
  · cases e
theorem cb_lst (hK : X.K = G.K) : CallR X (.type "list") (rDs G (biD Bi.lst)) := by
  intro pins s σ H xs us Q I r h
  obtain ⟨ρ, o, ds, val, b, hv, e, w⟩ := h
  have e : biLst ds = some val := e
  unfold biLst at e
  split at e
  · obtain ⟨v, rfl, a, vs, rfl, ha, rr⟩ := vds1 hv rfl
    cases e
    exact call_list_of pins s σ H _ us Q I r ⟨a, vs, rfl, .inl (.inl ha), fun l hn => w _ _ (post_lst b hn rr)⟩
  · obtain ⟨v, rfl, hd⟩ := vds1 hv rfl
    cases e
    cases hd with
    | tup ha da rr => exact call_list_of pins s σ H _ us Q I r ⟨_, _, rfl, .inr (sqT_frz ha), fun l hn => w _ _ (post_lst b hn rr)⟩
  · cases e
theorem cb_abs : CallR X (.builtin "abs") (rDs G (biD Bi.abs)) := by
  intro pins s σ H xs us Q I r h
  obtain ⟨ρ, o, ds, val, b, hv, e, w⟩ := h
  have e : biAbs ds = some val := e
  unfold biAbs at e
  split at e
  · obtain ⟨v, rfl, hd⟩ := vds1 hv rfl
    cases e
    cases hd
    exact call_abs pins s σ H _ us Q I r ⟨_, rfl, w _ _ (post_same b (.int _))⟩
  · cases e
theorem cb_int : CallR X (.type "int") (rDs G (biD Bi.int)) := by
  intro pins s σ H xs us Q I r h
  obtain ⟨ρ, o, ds, val, b, hv, e, w⟩ := h
  have e : biInt ds = some val := e
  unfold biInt at e
  split at e
  · obtain ⟨v, rfl, hd⟩ := vds1 hv rfl
    cases e
    cases hd
    exact call_int1 pins s σ H _ us Q I r (.inl ⟨_, rfl, w _ _ (post_same b (.int _))⟩)
  · obtain ⟨v, rfl, hd⟩ := vds1 hv rfl
    cases e
    cases hd
    exact call_int1 pins s σ H _ us Q I r (.inr ⟨_, rfl, w _ _ (post_same b (.int _))⟩)
  · cases e
theorem cb_sum (hc : X.calm = true) : CallR X (.builtin "sum") (rDs G (biD Bi.sum)) := by
  intro pins s σ H xs us Q I r h
  obtain ⟨ρ, o, ds, val, b, hv, e, w⟩ := h
  have e : biSum ds = some val := e
  unfold biSum at e
  split at e
  · obtain ⟨v, rfl, a, vs, rfl, ha, rr⟩ := vds1 hv rfl
    split at e
    · rename_i ns hz
      cases e
      have hvs := ints_vals hz rr
      subst hvs
      exact cr_sum hc pins s σ H _ us Q I r ⟨a, ns, rfl, .inl ha, w _ _ (post_same b (.int _))⟩
    · cases e
  · cases e
theorem cb_all (hc : X.calm = true) : CallR X (.builtin "all") (rDs G (biD Bi.all)) := by
  intro pins s σ H xs us Q I r h
  obtain ⟨ρ, o, ds, val, b, hv, e, w⟩ := h
  have e : biAll ds = some val := e
  unfold biAll at e
  split at e
  · obtain ⟨v, rfl, a, vs, rfl, ha, rr⟩ := vds1 hv rfl
    split at e
    · rename_i ns hz
      cases e
      have hvs := bools_vals hz rr
      subst hvs
      exact cr_all hc pins s σ H _ us Q I r ⟨a, ns, rfl, .inl ha, w _ _ (post_same b (.bl _))⟩
    · cases e
  · cases e
theorem cb_any (hc : X.calm = true) : CallR X (.builtin "any") (rDs G (biD Bi.any)) := by
  intro pins s σ H xs us Q I r h
  obtain ⟨ρ, o, ds, val, b, hv, e, w⟩ := h
  have e : biAny ds = some val := e
  unfold biAny at e
  split at e
  · obtain ⟨v, rfl, a, vs, rfl, ha, rr⟩ := vds1 hv rfl
    split at e
    · rename_i ns hz
      cases e
      have hvs := bools_vals hz rr
      subst hvs
      exact cr_any hc pins s σ H _ us Q I r ⟨a, ns, rfl, .inl ha, w _ _ (post_same b (.bl _))⟩
    · cases e
  · cases e
theorem vds2 {ρ : List Addr} {H : Hp} {ds : List D} {xs : List V} (h : VDs G ρ H ds xs) {x y : D} (e : ds = [x, y]) : ∃ v u, xs = [v, u] ∧ VD G ρ H x v ∧ VD G ρ H y u := by
  subst e
  cases h with
  | cons h r => cases r with
    | cons h2 r => cases r; exact ⟨_, _, rfl, h, h2⟩
theorem cb_max (hc : X.calm = true) : CallR X (.builtin "max") (rDs G (biD Bi.max)) := by
  intro pins s σ H xs us Q I r h
  obtain ⟨ρ, o, ds, val, b, hv, e, w⟩ := h
  have e : biMax ds = some val := e
  unfold biMax at e
  split at e
  · obtain ⟨v, rfl, a, vs, rfl, ha, rr⟩ := vds1 hv rfl
    split at e
    · rename_i ns hz
      cases hm : maxI ns with
      | none => simp [hm] at e
      | some m =>
        simp [hm] at e; subst e
        have hvs := ints_vals hz rr
        subst hvs
        obtain ⟨m1, m2⟩ := maxI_ok hm
        refine cr_max hc pins s σ H _ us Q I r ⟨a, ns, rfl, .inl ha, List.length_pos_of_mem m1, fun k k1 k2 => ?_⟩
        have : k = m := Int.le_antisymm (m2 k k1) (k2 m m1)
        subst this
        exact w _ _ (post_same b (.int _))
    · cases e
  · obtain ⟨v, u, rfl, hd, hd2⟩ := vds2 hv rfl
    cases e
    cases hd; cases hd2
    exact call_max2 hc pins s σ H _ us Q I r ⟨_, _, rfl, w _ _ (post_same b (.int _))⟩
  · cases e
theorem cb_min (hc : X.calm = true) : CallR X (.builtin "min") (rDs G (biD Bi.min)) := by
  intro pins s σ H xs us Q I r h
  obtain ⟨ρ, o, ds, val, b, hv, e, w⟩ := h
  have e : biMin ds = some val := e
  unfold biMin at e
  split at e
  · obtain ⟨v, rfl, a, vs, rfl, ha, rr⟩ := vds1 hv rfl
    split at e
    · rename_i ns hz
      cases hm : minI ns with
      | none => simp [hm] at e
      | some m =>
        simp [hm] at e; subst e
        have hvs := ints_vals hz rr
        subst hvs
        obtain ⟨m1, m2⟩ := minI_ok hm
        refine cr_min hc pins s σ H _ us Q I r ⟨a, ns, rfl, .inl ha, List.length_pos_of_mem m1, fun k k1 k2 => ?_⟩
        have : k = m := Int.le_antisymm (k2 m m1) (m2 k k1)
        subst this
        exact w _ _ (post_same b (.int _))
    · cases e
  · obtain ⟨v, u, rfl, hd, hd2⟩ := vds2 hv rfl
    cases e
    cases hd; cases hd2
    exact call_min2 hc pins s σ H _ us Q I r ⟨_, _, rfl, w _ _ (post_same b (.int _))⟩
  · cases e
/-- sorted of a list or a tuple -/
theorem sorted_seq {prog : Program} {w : World} {A : Around} {E : Value → Shared → Prop} {s : Shared} {l : Addr} {T : String} {o : Obj} {n : Nat} {vs : List Value} {ltv : Value → Value → Bool} {Q : Value → Shared → Prop} (O : SrtO.Swo ltv) (hT : T = "list" ∨ T = "tuple")
    (ho : s.heap.get? l = some o) (hc : o.cls = .type T) (hd : o.data = .seq vs.toArray n) (hz : vs.length ≤ sizeLine)
    (hS : 2 ≤ vs.length → ∀ (h₁ : Heap) (a : Addr), h₁.get? a = some (PyProof.Rows.seqObj "list" vs.toArray 0) → (∀ b o, s.heap.get? b = some o → b ≠ a ∧ h₁.get? b = some o) → SrtO.SortableO prog w A.in1.in1 { s with heap := h₁ } a vs ltv)
    (h : ∀ (out : List Value) (h1 h' : Heap) (ep : Nat), SrtO.Srtd ltv out → SrtO.Stb ltv out vs → (∀ b o, s.heap.get? b = some o → h1.get? b = some o) → h'.get? h1.objs.size = some (PyProof.Rows.seqObj "list" out.toArray ep) → (∀ b o, h1.get? b = some o → h'.get? b = some o) → Q (.ref h1.objs.size) { s with heap := h' }) :
    wpAny (model prog w) A (call (.builtin "sorted") [.ref l]) Q E s := by
  refine Calls.call_function_entry PyProof.Rows.kind_sorted PyProof.Rows.plain_sorted PyProof.Rows.entry_sorted (PyProof.Rows.args_sorted1 _) ?_
  unfold Builtin.«sorted»
  refine wpAny_bind (m := checkCount "sorted" 1 1 _) (wpAny_pure ?_)
  refine wpAny_bind (wpAny_collect_seq l hT ho hc hd (fun h1 k1 => ?_) (by simpa using hz))
  have e0 : vs.toArray.toList = vs := by simp
  rw [e0]
  refine wpAny_bind (wpAny_newList ?_ hz)
  have hoL : (h1.push (PyProof.Rows.seqObj "list" vs.toArray 0)).get? h1.objs.size = some (PyProof.Rows.seqObj "list" vs.toArray 0) := Heap.get?_push_size _ rfl
  have keep1 : ∀ b o, h1.get? b = some o → b ≠ h1.objs.size ∧ (h1.push (PyProof.Rows.seqObj "list" vs.toArray 0)).get? b = some o := fun b o q => ⟨Nat.ne_of_lt (Heap.lt_size q), Heap.get?_push_of_some _ q⟩
  show wpAny _ _ _ _ _ { s with heap := h1.push (PyProof.Rows.seqObj "list" vs.toArray 0) }
  refine wpAny_bind (wpAny_holding (wpAny_call_entry PyProof.Rows.slot_list_sort ⟨_, hoL, rfl⟩ PyProof.Rows.entry_list_sort (SrtO.list_sort_ord O hoL hz (fun h2 => hS h2 _ _ hoL fun b o q => keep1 b o (k1 b o q)) fun out hs hb => ⟨_, rfl, ?_⟩) (PyProof.Rows.args_list_sort _)))
  obtain ⟨ep, he⟩ := PyProof.Rows.sortedHeap_at (vs := vs) (out := out.toArray) hoL
  exact wpAny_pure ⟨_, rfl, h out h1 _ ep hs hb k1 he fun b o q => by
    rw [PyProof.Rows.sortedHeap_old (keep1 b o q).1 (Heap.lt_size (keep1 b o q).2)]
    exact (keep1 b o q).2⟩
theorem cb_sorted : CallR X (.builtin "sorted") (rDs G (biD Bi.sorted)) := by
  intro pins s σ H xs us Q I r h
  obtain ⟨ρ, o, ds, val, b, hv, e, w⟩ := h
  have e : biSorted ds = some val := e
  unfold biSorted at e
  split at e
  · obtain ⟨v, rfl, a, vs, rfl, ha, rr⟩ := vds1 hv rfl
    split at e
    · rename_i ns hz
      cases e
      have hvs := ints_vals hz rr
      subst hvs
      refine cr_sortedI pins s σ H _ us Q I r ⟨a, ns, rfl, .inl ha, fun ns' p h1 h2 hn => ?_⟩
      have e2 : ns' = sortI ns := sorted_eq (h1.trans (sortI_perm ns).symm) h2 (sortI_sorted ns)
      subst e2
      exact w _ _ (post_lst b hn (rds_ints _))
    · cases e
  · obtain ⟨v, rfl, hd⟩ := vds1 hv rfl
    cases hd with
    | tup ha da rr =>
      split at e
      · rename_i ns hz
        cases e
        have hvs := ints_vals hz rr
        subst hvs
        rw [Vals.ref1 r]
        obtain ⟨its, rv, ⟨⟨cls, dd, dt, sl⟩, ho, hc, n, hd⟩, hsz⟩ := I.tuple (sqT_frz ha)
        simp only at hc hd
        subst hc hd
        have hi := intsAre_of rv
        have hlen : its.length ≤ sizeLine := by rw [← rv.length]; exact hsz
        refine sorted_seq SrtO.swo_int (.inr rfl) ho rfl rfl hlen (fun h2 h₁ a' _ _ => SrtO.ints_sortable hi h2) fun out hh h' ep h1 h2 k0 he hk => ?_
        obtain ⟨k1, k2, k3⟩ := SrtO.ints_out hi h1 h2
        have e2 : out.map SrtO.iv = sortI ns := sorted_eq (k2.trans (sortI_perm ns).symm) k3 (sortI_sorted ns)
        have I1 : L2.Inv X pins σ H { s with heap := hh } := I.kept (t' := s.toks) k0
        have hn : H hh.objs.size = none := I1.hok.fresh (Nat.le_refl _)
        refine ⟨.ref hh.objs.size, upd H hh.objs.size (.lst ((out.map SrtO.iv).map V.int)), I1.laid (t' := s.toks) hk (Nat.le_refl _) ⟨?_, out, ep, vals_of_ints k1, he⟩, rfl, w _ _ ?_⟩
        · rw [List.length_map, k2.length_eq]
          rw [List.length_map] at hsz
          exact hsz
        · rw [e2]
          exact post_lst b hn (rds_ints _)
      · cases e
  · cases e
end
end Mi
end
section
set_option linter.all false
set_option Elab.async false
set_option maxHeartbeats 2000000
set_option autoImplicit false
namespace Mi
open PySem L2
section
variable {G : Gx} {X : L2.Cx} {Wx : WX} {pos : Pos} {a b c e : Expr} {es : List Expr} {r : Sg → List Ob → R (List W)} {va vb vc : Sg → List Ob → R Val} {cx : Cx}
/-! ### calls of built-ins -/
/-- a built-in by its name, a value -/
inductive BiV : Str → Value → Prop where
  | fn {x : Str} {id : String} : bootBuiltins x = some (.builtin id) → BiV x (.builtin id)
  | ty {x : Str} {T : String} : bootBuiltins x = some (.type T) → BiV x (.type T)
theorem pe_biV {x : Str} {f : Value} {p : Pos} {rr : List V → Hp → VK → Prop} {t : TA} (hb : BiV x f) (hc : CallR X f rr) (hg : Gl X x) (hm : X.mg x = none) (ha : PA X (e :: es) t) (hs : (e :: es).all (fun e => !isStar e) = true)
    (hn : (x == ("__name__" : Str)) = false) (hd : (x == ("__debug__" : Str)) = false) : PE X (.Call (.Name x p) (e :: es) [] pos) (tCB rr t) := by
  have hs1 : isStar e = false := by
    have := (List.all_eq_true.mp hs) e List.mem_cons_self
    simpa using this
  have hs2 : (starEach es X.env).any (·.1) = false := starEach_all (by
    rw [List.all_cons] at hs
    exact (Bool.and_eq_true_iff.mp hs).2)
  have hback : (backTo pos (starEach es X.env)).any (·.1) = false := by
    have go : ∀ l : List (Bool × Sem Value), (backTo pos l).any (·.1) = l.any (·.1) := by
      intro l
      induction l with
      | nil => rfl
      | cons q l ih =>
        obtain ⟨k, m⟩ := q
        show (backTo pos ((k, m) :: l)).any (·.1) = _
        first
          | (rw [List.any_cons, ← ih]; rfl)
          | (unfold backTo; simp)
    rw [go]; exact hs2
  cases hb with
  | fn h => exact pe_callB hc hg hm h ha (by intro z; rw [z] at hn; simp at hn) hd (starEach_ok hs1 X.env) hback
  | ty h => exact pe_callTy hc hg hm h ha (by intro z; rw [z] at hn; simp at hn) hd (starEach_ok hs1 X.env) hback
theorem ee_bi {x : Str} {f : Value} {p : Pos} {g : List D → Option Val} (hb : BiV x f) (hc : CallR X f (rDs G g)) (hg : Gl X x) (hm : X.mg x = none) (ha : PA X (e :: es) (tA G Wx r)) (hs : (e :: es).all (fun e => !isStar e) = true)
    (hn : (x == ("__name__" : Str)) = false) (hd : (x == ("__debug__" : Str)) = false) : EE G X Wx (.Call (.Name x p) (e :: es) [] pos) (fun τ o => bnd (r τ o) fun ws o1 => opDs g ws o1) :=
  EE.of (PE.weak (pe_biV hb hc hg hm ha hs hn hd) fun σ H Q h => (tA_one (f := fun _ => opDs g) h).mono fun vs H1 ⟨ρ, o, τ, ws, a, rw, q⟩ => opDs_ok a rw q) rfl
/-! ### isinstance -/
def tyName (T : Nat) : Option String :=
  if T = Bi.isInt then some "int" else if T = Bi.isBool then some "bool" else if T = Bi.isStr then some "str" else if T = Bi.isTup then some "tuple" else if T = Bi.isLst then some "list" else none
theorem kits : ∀ (A : String) (b : Nat) (T : Nat) (N : String), tyName T = some N → (A, b) ∈ [("NoneType", 99), ("bool", Bi.isBool), ("int", Bi.isInt), ("str", Bi.isStr), ("tuple", Bi.isTup), ("list", Bi.isLst), ("dict", 99)] →
    PySem.W.kitOne G.K (.type A) (.type N) = some (T == b || (T == Bi.isInt && b == Bi.isBool)) := by
  intro A b T N h m
  unfold tyName at h
  have fin : ∀ {A B : String} {r : Bool}, kitB A B = some r → PySem.W.kitOne G.K (.type A) (.type B) = some r := fun h => kit_ty h
  simp only [List.mem_cons, Prod.mk.injEq, List.not_mem_nil, or_false] at m
  rcases m with ⟨rfl, rfl⟩ | ⟨rfl, rfl⟩ | ⟨rfl, rfl⟩ | ⟨rfl, rfl⟩ | ⟨rfl, rfl⟩ | ⟨rfl, rfl⟩ | ⟨rfl, rfl⟩ <;>
  · split at h
    · rename_i q; subst q; cases h; exact fin (by decide +kernel)
    · split at h
      · rename_i q; subst q; cases h; exact fin (by decide +kernel)
      · split at h
        · rename_i q; subst q; cases h; exact fin (by decide +kernel)
        · split at h
          · rename_i q; subst q; cases h; exact fin (by decide +kernel)
          · split at h
            · rename_i q; subst q; cases h; exact fin (by decide +kernel)
            · cases h
theorem tyName_mem {T : Nat} {N : String} (h : tyName T = some N) : N ∈ ["int", "bool", "str", "tuple", "list"] := by
  unfold tyName at h
  split at h
  · cases h; simp
  · split at h
    · cases h; simp
    · split at h
      · cases h; simp
      · split at h
        · cases h; simp
        · split at h
          · cases h; simp
          · cases h
theorem tyX_ins (hK : X.K = G.K) (C : ClsOk G) {H : Hp} {a D dx : Addr} {c : Nat} {fv : List (Str × V)} (h : H a = some (.ins D dx fv)) (hc : G.ga c = some D ∧ G.isC c = true) : TyX X.K H (.ref a) (.ref D) := by
  obtain ⟨t1, t2, t3, t4⟩ := C.ty c D hc.1 hc.2
  rw [hK]
  exact .base (.ins h (C.cls c D hc.1 hc.2) t1 t2 t3 t4)
theorem rd_list {H : Hp} {a : Addr} {vs : List V} (h : Rd H a (.lst vs)) : TyX X.K H (.ref a) (.type "list") := by
  rcases h with h | ⟨o, h⟩
  · exact .base (.lst h)
  · exact .base (.frz h)
theorem rd_dict {H : Hp} {a : Addr} {ks : List D} {vs : List V} {u : HO} (h : H a = some u) (d : DctU ks vs u) : TyX X.K H (.ref a) (.type "dict") := by
  rcases d with ⟨k, _, rfl⟩ | ⟨k, _, rfl⟩
  · exact .base (.dK h)
  · exact .base (.dT h)
theorem kitF {T b : Nat} (h : (b == Bi.isBool) = false) : (T == b || (T == Bi.isInt && b == Bi.isBool)) = (T == b) := by rw [h, Bool.and_false, Bool.or_false]
theorem kitN {T : Nat} {N : String} (h : tyName T = some N) : (T == 99 || (T == Bi.isInt && 99 == Bi.isBool)) = false := by
  rw [kitF (by decide)]
  cases z : (T == 99) with
  | false => rfl
  | true =>
    have : T = 99 := by simpa using z
    subst this
    have e0 : tyName 99 = none := by decide
    rw [e0] at h; cases h
/-- a value's type -/
theorem isi_ok (hK : X.K = G.K) (C : ClsOk G) {ρ : List Addr} {H : Hp} {o o' : List Ob} {T : Nat} {N : String} {x : W} {v : V} {val : Val} (hT : tyName T = some N) (b : Obs G ρ ρ H o) (rx : RW G ρ ρ H x v) (e : isiW T x o = .ok val o') :
    ∃ t k, TyX X.K H v t ∧ PySem.W.kitOne X.K t (.type N) = some k ∧ val = wd (.bl k) ∧ o' = o := by
  rw [hK]
  have kit := fun A b m => kits (G := G) A b T N hT m
  unfold isiW at e
  cases z : view o x with
  | none =>
    simp only [z] at e
    cases x with
    | d p => simp [view] at z
    | loc n =>
      obtain ⟨ad, ea, rfl⟩ := rx
      cases q : o[n]? with
      | none => simp [q] at e
      | some ob =>
        have rb := b.ob n ob ad q ea
        cases ob with
        | lst ws =>
          simp [q] at e
          obtain ⟨rfl, rfl⟩ := e
          obtain ⟨vs, ha, _⟩ := rb
          exact ⟨_, _, hK ▸ rd_list (X := X) (.inl ha), kit "list" Bi.isLst (by simp), by rw [kitF (by decide)], rfl⟩
        | ins c fs =>
          simp [q] at e
          obtain ⟨rfl, rfl⟩ := e
          obtain ⟨D, dx, fv, ha, hc, _⟩ := rb
          exact ⟨_, _, hK ▸ tyX_ins hK C ha hc, C.kt _ _ hc.1 hc.2 N (tyName_mem hT), rfl, rfl⟩
        | _ => simp [q] at e
  | some d =>
    simp only [z] at e
    have hd := view_ok b z rx
    cases d with
    | non => cases hd; simp [isiD, okO] at e; obtain ⟨rfl, rfl⟩ := e; exact ⟨_, _, .base .non, kit "NoneType" 99 (by simp), by rw [kitN hT], rfl⟩
    | bl k => cases hd; simp [isiD, okO] at e; obtain ⟨rfl, rfl⟩ := e; exact ⟨_, _, .base (.bl _), kit "bool" Bi.isBool (by simp), by simp [Bool.or_comm], rfl⟩
    | int i => cases hd; simp [isiD, okO] at e; obtain ⟨rfl, rfl⟩ := e; exact ⟨_, _, .base (.int _), kit "int" Bi.isInt (by simp), by rw [kitF (by decide)], rfl⟩
    | str s => cases hd; simp [isiD, okO] at e; obtain ⟨rfl, rfl⟩ := e; exact ⟨_, _, .base (.str _), kit "str" Bi.isStr (by simp), by rw [kitF (by decide)], rfl⟩
    | tup xs => cases hd with | tup ha da ra => simp [isiD, okO] at e; obtain ⟨rfl, rfl⟩ := e; exact ⟨_, _, .fTuple ha, kit "tuple" Bi.isTup (by simp), by rw [kitF (by decide)], rfl⟩
    | lst xs => obtain ⟨a, vs, rfl, ha, ra⟩ := hd; simp [isiD, okO] at e; obtain ⟨rfl, rfl⟩ := e; exact ⟨_, _, hK ▸ rd_list (X := X) ha, kit "list" Bi.isLst (by simp), by rw [kitF (by decide)], rfl⟩
    | obj c fs => cases hd with | obj ha na hc rf => simp [isiD, okO] at e; obtain ⟨rfl, rfl⟩ := e; exact ⟨_, _, hK ▸ tyX_ins hK C ha hc, C.kt _ _ hc.1 hc.2 N (tyName_mem hT), rfl, rfl⟩
    | dct kvs =>
      obtain ⟨a, vs, u, rfl, ha, hd, r⟩ := hd
      simp [isiD, okO] at e; obtain ⟨rfl, rfl⟩ := e
      exact ⟨_, _, hK ▸ rd_dict (X := X) ha hd, kit "dict" 99 (by simp), by rw [kitN hT], rfl⟩
    | _ => simp [isiD, okO] at e
theorem iso_ok (hK : X.K = G.K) (C : ClsOk G) {ρ : List Addr} {H : Hp} {o o' : List Ob} {c : Nat} {A : Addr} {x : W} {v : V} {val : Val} (hA : G.ga c = some A ∧ G.isC c = true) (b : Obs G ρ ρ H o) (rx : RW G ρ ρ H x v) (e : isoW c x o = .ok val o') :
    ∃ t k, TyX X.K H v t ∧ PySem.W.kitOne X.K t (.ref A) = some k ∧ val = wd (.bl k) ∧ o' = o := by
  rw [hK]
  have ko := fun T m => C.ko c A hA.1 hA.2 T m
  unfold isoW at e
  cases x with
  | d d =>
    cases d with
    | non => cases rx; simp [isoD, okO] at e; obtain ⟨rfl, rfl⟩ := e; exact ⟨_, _, .base .non, ko _ (by simp), rfl, rfl⟩
    | bl k => cases rx; simp [isoD, okO] at e; obtain ⟨rfl, rfl⟩ := e; exact ⟨_, _, .base (.bl _), ko _ (by simp), rfl, rfl⟩
    | int i => cases rx; simp [isoD, okO] at e; obtain ⟨rfl, rfl⟩ := e; exact ⟨_, _, .base (.int _), ko _ (by simp), rfl, rfl⟩
    | str s => cases rx; simp [isoD, okO] at e; obtain ⟨rfl, rfl⟩ := e; exact ⟨_, _, .base (.str _), ko _ (by simp), rfl, rfl⟩
    | tup xs => cases rx with | tup ha da ra => simp [isoD, okO] at e; obtain ⟨rfl, rfl⟩ := e; exact ⟨_, _, .fTuple ha, ko _ (by simp), rfl, rfl⟩
    | lst xs => cases rx with | lst ha na ra => simp [isoD, okO] at e; obtain ⟨rfl, rfl⟩ := e; exact ⟨_, _, hK ▸ rd_list (X := X) ha, ko _ (by simp), rfl, rfl⟩
    | obj c' fs => cases rx with | obj ha na hc rf => simp [isoD, okO] at e; obtain ⟨rfl, rfl⟩ := e; exact ⟨_, _, hK ▸ tyX_ins hK C ha hc, C.kk _ _ _ _ hA.1 hA.2 hc.1 hc.2, rfl, rfl⟩
    | dct kvs => cases rx with | dct ha na hd r => simp [isoD, okO] at e; obtain ⟨rfl, rfl⟩ := e; exact ⟨_, _, hK ▸ rd_dict (X := X) ha hd, ko _ (by simp), rfl, rfl⟩
    | _ => simp [isoD, okO] at e
  | loc n =>
    obtain ⟨ad, ea, rfl⟩ := rx
    cases q : o[n]? with
    | none => simp [q] at e
    | some ob =>
      have rb := b.ob n ob ad q ea
      cases ob with
      | lst ws =>
        simp [q] at e
        obtain ⟨rfl, rfl⟩ := e
        obtain ⟨vs, ha, _⟩ := rb
        exact ⟨_, _, hK ▸ rd_list (X := X) (.inl ha), ko _ (by simp), rfl, rfl⟩
      | ins c' fs =>
        simp [q] at e
        obtain ⟨rfl, rfl⟩ := e
        obtain ⟨D, dx, fv, ha, hc, _⟩ := rb
        exact ⟨_, _, hK ▸ tyX_ins hK C ha hc, C.kk _ _ _ _ hA.1 hA.2 hc.1 hc.2, rfl, rfl⟩
      | _ => simp [q] at e
theorem isiW_ne {T : Nat} {x : W} {o o1 : List Ob} {e : Ex} : isiW T x o ≠ .exc e o1 := by
  unfold isiW okO
  split
  · split <;> (intro h; cases h)
  · split
    · split <;> (intro h; cases h)
    · intro h; cases h
theorem isoW_ne {T : Nat} {x : W} {o o1 : List Ob} {e : Ex} : isoW T x o ≠ .exc e o1 := by
  unfold isoW okO
  split
  · split <;> (intro h; cases h)
  · split <;> (intro h; cases h)
/-- isinstance(a, c): the class's value is cv -/
theorem ee_isX {p : Pos} {cv : V} {u : Value} {f : W → List Ob → R Val} (hf : ∀ x o e o1, f x o ≠ .exc e o1) (hcl : ClsV cv u) (hc : PE X c (tC cv))
    (hk : ∀ (ρ : List Addr) (H : Hp) (o o' : List Ob) (x : W) (v : V) (val : Val), Obs G ρ ρ H o → RW G ρ ρ H x v → f x o = .ok val o' → ∃ t k, TyX X.K H v t ∧ PySem.W.kitOne X.K t u = some k ∧ val = wd (.bl k) ∧ o' = o)
    (hg : Gl X "isinstance") (hm : X.mg "isinstance" = none) (hsa : isStar a = false) (hsc : isStar c = false) (ha : EE G X Wx a va) : EE G X Wx (.Call (.Name "isinstance" p) [a, c] [] pos) (fun τ o => bnd (asW (va τ o)) fun x o1 => f x o1) := by
  have hpa : PA X [a, c] (tCons (tW G Wx fun τ o => asW (va τ o)) (tCons (tC cv) tNil)) := pa_cons ha.w (pa_cons hc pa_nil (starEach_ok hsc X.env)) (starEach_ok hsa X.env)
  refine EE.of (PE.weak (pe_biV (.fn (by decide +kernel)) call_isi hg hm hpa (by simp [hsa, hsc]) (by decide +kernel) (by decide +kernel)) fun σ H Q h => ?_) rfl
  refine (tW_one (f := fun _ => f) h).mono fun v H1 ⟨ρ, o, τ, x, at_, rx, q⟩ => ?_
  cases z : f x o with
  | ok val o' =>
    rw [z] at q
    obtain ⟨t, k, h1, h2, rfl, rfl⟩ := hk ρ H1 o o' x v val at_.ob rx z
    exact ⟨v, cv, t, u, k, rfl, hcl, h1, h2, q _ _ (post_same at_.ob (.bl _))⟩
  | exc e o' => exact absurd z (hf _ _ _ _)
  | bad => rw [z] at q; exact q.elim
end
end Mi
end
section
set_option linter.all false
set_option Elab.async false
set_option maxHeartbeats 2000000
set_option autoImplicit false
namespace Mi
open PySem L2
section
variable {G : Gx} {X : L2.Cx} {Wx : WX} {pos : Pos} {a b c e : Expr} {es : List Expr} {r : Sg → List Ob → R (List W)} {va vb vc : Sg → List Ob → R Val} {cx : Cx}
theorem PE.or {t t' : TE} (h : PE X e t) (h' : PE X e t') : PE X e (fun σ H Q => t σ H Q ∨ t' σ H Q) := ⟨fun pins s σ H Q I q => by
  rcases q with q | q
  · exact h.run pins s σ H Q I q
  · exact h'.run pins s σ H Q I q⟩
/-! ### calls of built-in methods -/
def LstTy (x : V) (H : Hp) : Prop := ∃ a vs, x = .ref a ∧ Rd H a (.lst vs)
def TupTy (x : V) (H : Hp) : Prop := ∃ a ob vs, x = .ref a ∧ H a = some (.frz ob (.tup vs)) ∧ ob.dict = none
def TyOk (X : L2.Cx) (T : String) (Ty : V → Hp → Prop) : Prop := ∀ (pins : List (Addr × Obj)) (σ : L2.St) (H : Hp) (s : Shared) (x : V) (v : Value), L2.Inv X pins σ H s → RelV x v → Ty x H →
  s.TypeIs v T ∧ ∀ a, v = .ref a → ∃ ob, s.heap.get? a = some ob ∧ ob.dict = none
theorem tyOk_lst : TyOk X "list" LstTy := by
  intro pins σ H s x v I r ⟨a, vs, e, h⟩
  subst e
  cases r
  obtain ⟨_, its, n, _, _, e⟩ := Inv.lstR I h
  exact ⟨⟨_, e, rfl⟩, fun b q => by cases q; exact ⟨_, e, rfl⟩⟩
theorem tyOk_tup : TyOk X "tuple" TupTy := by
  intro pins σ H s x v I r ⟨a, ob, vs, e, h, hd⟩
  subst e
  cases r
  obtain ⟨e1, _, its, _, o, e2, hc, _⟩ := I.hok a _ h
  rw [e1] at e2; cases e2
  exact ⟨⟨_, e1, hc⟩, fun b q => by cases q; exact ⟨_, e1, hd⟩⟩
def tBMx (Ty : V → Hp → Prop) (rr : V → List V → Hp → VK → Prop) (to : TE) (t : TA) : TE := fun σ H Q => to σ H fun x H1 => Ty x H1 ∧ t σ H1 fun xs H2 => rr x xs H2 Q
variable {o : Expr} {to : TE} {t : TA} {name : Str} {apos cpos : Pos} {T id : String} {rr : V → List V → Hp → VK → Prop} {Ty : V → Hp → Prop}
theorem pe_bmx0 (hty' : TyOk X T Ty) (pa : PlainAttrs T) (slot : Slot T name id) (hty : typeOf (.builtin id) = pure (.type "method_descriptor")) (hm : MtR X id rr) (ho : PE X o to)
    (hn : noArgs o = true) (hline : (apos.endLine == cpos.line) = true) : PE X (.Call (.Attribute o name apos) [] [] cpos) (tBMx Ty rr to tNil) := by
  refine ⟨fun pins s σ H Q I h => ?_⟩
  refine wpAny_Call_method0_late (attrBase hn _) hline (thn (ho.run pins s σ H _ I h) fun v s1 ⟨x, H1, I1, r1, ty, q1⟩ => ?_)
  obtain ⟨h1, h2⟩ := hty' pins σ H1 s1 x v I1 r1 ty
  exact ⟨T, id, pa, slot, hty, h1, h2, Calls.callWith_builtin rfl (PySem.evalArgs_none (hm pins s1 σ H1 x [] v [] Q I1 r1 .nil q1))⟩
theorem pe_bmx1 (hty' : TyOk X T Ty) (pa : PlainAttrs T) (slot : Slot T name id) (hty : typeOf (.builtin id) = pure (.type "method_descriptor")) (hm : MtR X id rr) (ho : PE X o to) (ha : PA X [e] t)
    (hn : noArgs o = true) (hs : isStar e = false) (hline : (apos.endLine == cpos.line) = true) : PE X (.Call (.Attribute o name apos) [e] [] cpos) (tBMx Ty rr to t) := by
  have hse : starEach [e] X.env = (false, eval e X.env) :: starEach [] X.env := starEach_ok hs X.env
  refine ⟨fun pins s σ H Q I h => ?_⟩
  refine wpAny_Call_method_late (attrBase hn _) (by rw [hse]; rfl) hline rfl (thn (ho.run pins s σ H _ I h) fun v s1 ⟨x, H1, I1, r1, ty, q1⟩ => ?_)
  obtain ⟨h1, h2⟩ := hty' pins σ H1 s1 x v I1 r1 ty
  refine ⟨T, id, pa, slot, hty, h1, h2, ?_⟩
  have hA := ha.run cpos pins s1 σ H1 _ I1 q1
  rw [hse] at hA ⊢
  refine Calls.callWith_builtin (by rfl) (Calls.evalArgs_plain ?_)
  exact thn hA fun us s2 ⟨vs, H2, I2, r2, q2⟩ => hm pins s2 σ H2 x vs v us Q I2 r1 r2 q2
/-- a value, then arguments -/
theorem tWA {σ : L2.St} {H : Hp} {Q : VK} {ra : Sg → List Ob → R W} {g : List Ob → W → Option Bool} {P : Bool → V → Hp → Prop} {f : Bool → W → List W → List Ob → R Val} {k : Bool}
    (h : tE G Wx (fun τ o => bnd (ra τ o) fun x o1 => match g o1 x with | some k => bnd (r τ o1) fun ws o2 => f k x ws o2 | none => .bad) σ H Q)
    (hk : ∀ ρ τ o w o1 k', Obs G ρ ρ H o → Sl G ρ ρ H τ σ → ra τ o = .ok w o1 → g o1 w = some k' → k' = k)
    (hg : ∀ ρ H o x v, Obs G ρ ρ H o → RW G ρ ρ H x v → g o x = some k → P k v H) :
    tW G Wx ra σ H fun v H1 => P k v H1 ∧ tA G Wx r σ H1 fun vs H2 => ∃ ρ o x ws, Obs G ρ ρ H2 o ∧ RW G ρ ρ H2 x v ∧ RWs G ρ ρ H2 ws vs ∧ RP G Wx ρ H2 σ (WantV G ρ H2 Q) (f k x ws o) := by
  obtain ⟨ρ, τ, o, b, l, h⟩ := h
  refine ⟨ρ, τ, o, b, l, ?_⟩
  have h1 := RP.bnd h
  cases z : ra τ o with
  | exc x o1 => rw [z] at h1; exact h1
  | bad => rw [z] at h1; exact h1
  | ok x o1 =>
    rw [z] at h1
    intro v H1 hp
    obtain ⟨ρ1, p, s, b1, rx⟩ := hp
    have h1 : RP G Wx ρ H σ (WantV G ρ H Q) (match g o1 x with | some k => bnd (r τ o1) fun ws o2 => f k x ws o2 | none => .bad) := h1
    cases y : g o1 x with
    | none => rw [y] at h1; exact h1.elim
    | some k' =>
      have ek := hk ρ τ o x o1 k' b l z y
      subst ek
      rw [y] at h1
      refine ⟨hg ρ1 H1 o1 x v b1 rx y, ρ1, τ, o1, b1, l.step p s b.zm, (RP.bnd h1).lift p s fun ws o2 q vs H2 hp2 => ?_⟩
      obtain ⟨ρ2, p2, s2, b2, r2⟩ := hp2
      exact ⟨ρ2, o2, x, ws, b2, rx.step p2 s2 b1.zm, r2, q.lift (p.trans p2) (s.trans s2) fun _ _ q => WantV.lift (p.trans p2) (s.trans s2) q⟩
theorem kindW_ok {ρ : List Addr} {H : Hp} {o : List Ob} {x : W} {v : V} {k : Bool} (b : Obs G ρ ρ H o) (rx : RW G ρ ρ H x v) (e : kindW o x = some k) : if k then LstTy v H else TupTy v H := by
  cases x with
  | d d =>
    cases d <;> first | (simp [kindW] at e; done) | skip
    · simp [kindW] at e; subst e
      cases rx with
      | lst ha na ra => exact ⟨_, _, rfl, ha⟩
    · simp [kindW] at e; subst e
      cases rx with
      | tup ha da ra => exact ⟨_, _, _, rfl, ha, da⟩
  | loc n =>
    obtain ⟨ad, ea, rfl⟩ := rx
    cases q : o[n]? with
    | none => simp [kindW, q] at e
    | some ob =>
      have rb := b.ob n ob ad q ea
      cases ob with
      | lst ws =>
        simp [kindW, q] at e; subst e
        obtain ⟨vs, ha, _⟩ := rb
        exact ⟨ad, vs, rfl, .inl ha⟩
      | _ => simp [kindW, q] at e
/-! ### index, count -/
def rMth (G : Gx) (m : Nat) (k : Bool) : V → List V → Hp → VK → Prop := fun x xs H Q => ∃ ρ o wx ws val o', Obs G ρ ρ H o ∧ RW G ρ ρ H wx x ∧ RWs G ρ ρ H ws xs ∧ mthR m k wx ws o = .ok val o' ∧ WantV G ρ H Q val o'
theorem mthR_ne {m : Nat} {k : Bool} {x : W} {ws : List W} {o o1 : List Ob} {e : Ex} : mthR m k x ws o ≠ .exc e o1 := by
  unfold mthR okO
  split
  · split
    · split <;> (intro h; cases h)
    · intro h; cases h
  · split
    · intro h; cases h
    · split <;> (intro h; cases h)
  · intro h; cases h
theorem mthD_ok {m : Nat} {xs ds : List D} {val : Val} (e : mthD m xs ds = some val) : ∃ x, ds = [x] ∧ plain 60 x = true ∧ plains 59 xs = true ∧
    ((m = Mt.index ∧ ∃ i, indexD x xs 0 = some i ∧ val = wd (.int i)) ∨ (m = Mt.count ∧ val = wd (.int ((xs.filter fun y => eqD y x).length : Nat)))) := by
  unfold mthD at e
  split at e
  · rename_i x
    split at e
    · rename_i hp
      obtain ⟨p1, p2⟩ := bools_and hp
      refine ⟨x, rfl, p1, p2, ?_⟩
      split at e
      · rename_i hm
        cases z : indexD x xs 0 with
        | none => simp [z] at e
        | some i => simp [z] at e; exact .inl ⟨hm, i, rfl, e.symm⟩
      · split at e
        · rename_i hm; cases e; exact .inr ⟨hm, rfl⟩
        · cases e
    · cases e
  · cases e
theorem indexD_ok {x : D} : ∀ {xs : List D} {k i : Nat}, indexD x xs k = some i → ∃ j, i = k + j ∧ (∃ y, xs[j]? = some y ∧ eqD y x = true) ∧ ∀ m y, m < j → xs[m]? = some y → eqD y x = false
  | [], _, _, e => by cases e
  | y :: ys, k, i, e => by
    unfold indexD at e
    split at e
    · rename_i h
      cases e
      exact ⟨0, rfl, ⟨y, rfl, h⟩, fun m _ hm => absurd hm (Nat.not_lt_zero m)⟩
    · rename_i h
      obtain ⟨j, rfl, ⟨z, hz, hzz⟩, hno⟩ := indexD_ok e
      refine ⟨j + 1, by omega, ⟨z, by simpa using hz, hzz⟩, fun m w hm hw => ?_⟩
      cases m with
      | zero => simp at hw; subst hw; simpa using h
      | succ m => exact hno m w (by omega) (by simpa using hw)
theorem toPys_get : ∀ {xs : List D} {i : Nat} {x : D}, xs[i]? = some x → (toPys xs)[i]? = some (toPy x)
  | [], _, _, e => by simp at e
  | x :: xs, 0, y, e => by simp at e; subst e; simp [toPys]
  | x :: xs, i + 1, y, e => by simp [toPys]; exact toPys_get (by simpa using e)
theorem toPys_length : ∀ xs : List D, (toPys xs).length = xs.length
  | [] => rfl
  | x :: xs => by simp [toPys, toPys_length xs]
theorem plains_get : ∀ {n : Nat} {xs : List D} {i : Nat} {x : D}, plains n xs = true → xs[i]? = some x → plain n x = true
  | _, [], _, _, _, e => by simp at e
  | n, x :: xs, 0, y, h, e => by simp [plains] at h; simp at e; subst e; exact h.1
  | n, x :: xs, i + 1, y, h, e => by simp [plains] at h; exact plains_get h.2 (by simpa using e)
/-- a sequence of plain data, an item asked -/
theorem seq_reads {pins : List (Addr × Obj)} {σ : L2.St} {H : Hp} {s : Shared} {zs : List Addr} {xs : List D} {vs : List V} {its : List Value} (hK : X.K = G.K) (I : L2.Inv X pins σ H s) (h : plains 59 xs = true) (r : RDs G zs H xs vs) (rv : Vals vs its) : ∃ as, ReadsAll s.heap its (toPys xs) as :=
  Dp.readsAll I (toPys xs) vs its (by rw [hK]; exact dps_of 59 xs vs h r) rv
theorem count_at {h : Heap} {its : List Value} {xs : List D} {d : D} {as : List Addr} (hp : plains 59 xs = true) (hd : plain 60 d = true) (r : ReadsAll h its (toPys xs) as) (hl : PyData.canLayAll0 (toPys xs) = true) :
    its.countP (fun u => PyData.eqv (SeqAt.readOf h u) (toPy d)) = (xs.filter fun y => eqD y d).length := by
  have hmap : its.map (SeqAt.readOf h) = toPys xs := SeqAt.readsAll_map (toPys xs) its as hl r
  have e1 : its.countP (fun u => PyData.eqv (SeqAt.readOf h u) (toPy d)) = (toPys xs).countP fun z => PyData.eqv z (toPy d) := by
    rw [← hmap, List.countP_map]; rfl
  rw [e1]
  have go : ∀ xs : List D, plains 59 xs = true → (toPys xs).countP (fun z => PyData.eqv z (toPy d)) = (xs.filter fun y => eqD y d).length := by
    intro xs
    induction xs with
    | nil => intro _; rfl
    | cons x xs ih =>
      intro hp
      simp [plains] at hp
      simp only [toPys]
      rw [List.countP_cons, ih hp.2, eqv_toPy 59 60 x d hp.1 hd, List.filter_cons]
      cases eqD x d <;> simp
  exact go xs hp
theorem mt_mth (hK : X.K = G.K) (hu : X.A.units + 65 < cLine) (m : Nat) (k : Bool) (id : String)
    (hid : (m = Mt.index ∧ k = true ∧ id = "list.index") ∨ (m = Mt.index ∧ k = false ∧ id = "tuple.index") ∨ (m = Mt.count ∧ k = true ∧ id = "list.count") ∨ (m = Mt.count ∧ k = false ∧ id = "tuple.count")) : MtR X id (rMth G m k) := by
  intro pins s σ H x xs v us Q I rx rs h
  obtain ⟨ρ, o, wx, ws, val, o', b, hx, hws, e, w⟩ := h
  -- the sequence
  have key : ∃ (ys ds : List D) (a : Addr) (vs : List V) (its : List Value) (n : Nat) (dd : Option Addr) (sl : Array (Option Value)), viewAll o ws = some ds ∧ mthD m ys ds = some val ∧ o' = o ∧ x = .ref a ∧ RDs G ρ H ys vs ∧ Vals vs its ∧
      s.heap.get? a = some { cls := .type (if k then "list" else "tuple"), dict := dd, data := .seq its.toArray n, slots := sl } ∧ its.length ≤ sizeLine := by
    unfold mthR at e
    split at e
    · rename_i ys ds h1 h2
      split at e
      · rename_i hk
        subst hk
        have hv := view_ok b h1 hx
        obtain ⟨a, vs, rfl, ha, ra⟩ := hv
        obtain ⟨z, its, n, rv, hl, eo⟩ := Inv.lstR I ha
        cases z2 : mthD m ys ds with
        | none => simp [okO, z2] at e
        | some y =>
          simp [okO, z2] at e
          exact ⟨ys, ds, a, vs, its, n, _, _, h2, by rw [z2, e.1], e.2.symm, rfl, ra, rv, eo, by omega⟩
      · cases e
    · rename_i ys ds h1 h2
      split at e
      · cases e
      · rename_i hk
        have hk' : k = false := by simpa using hk
        subst hk'
        have hv := view_ok b h1 hx
        cases hv with
        | tup ha da ra =>
          obtain ⟨its, rv, ⟨⟨cls, dd, dt, sl⟩, ho, hc, n, hd⟩, hz⟩ := I.tuple (sqT_frz ha)
          simp only at hc hd
          subst hc hd
          cases z2 : mthD m ys ds with
          | none => simp [okO, z2] at e
          | some y =>
            simp [okO, z2] at e
            exact ⟨ys, ds, _, _, its, n, dd, sl, h2, by rw [z2, e.1], e.2.symm, rfl, ra, rv, ho, by rw [← rv.length]; exact hz⟩
    · cases e
  obtain ⟨ys, ds, a, vs, its, n, dd, sl, hds, hm, rfl, rfl, ra, rv, ho, hsz⟩ := key
  obtain ⟨d, rfl, pd, pys, hcase⟩ := mthD_ok hm
  have hvd := viewAll_ok b hds hws
  obtain ⟨vd, rfl, hd⟩ := vds1 hvd rfl
  cases rx
  obtain ⟨ud, rfl, rud⟩ := vals1 rs
  obtain ⟨as, h4⟩ := seq_reads hK I pys ra rv
  obtain ⟨bs, r1⟩ := dp_readsV hK I pd hd rud
  have hlay := toPys_lay 59 ys pys
  have hroom : X.A.units + 1 + min (PyData.depthAll (toPys ys)) (toPy d).depth < cLine := by have := toPy_depth 60 d pd; omega
  have heq := SeqAt.items_eqAt (vs := its.toArray) (show ReadsAll s.heap its.toArray.toList (toPys ys) as from h4) r1 hlay (toPy_lay 60 d pd) hroom
  have hlen : its.length = ys.length := by rw [← rv.length, ← ra.length]
  have hmap : its.map (SeqAt.readOf s.heap) = toPys ys := SeqAt.readsAll_map (toPys ys) its as hlay h4
  have at_ : ∀ (j : Nat) (hj : j < its.toArray.size) (y : D), ys[j]? = some y → PyData.eqv (SeqAt.readOf s.heap its.toArray[j]) (toPy d) = eqD y d := fun j hj y hy => by
    have hjl : j < its.length := by simpa using hj
    have e2 := toPys_get hy
    rw [← hmap, List.getElem?_map, List.getElem?_eq_getElem hjl] at e2
    have e3 : SeqAt.readOf s.heap its[j] = toPy y := Option.some.inj e2
    have e4 : its.toArray[j] = its[j] := by simp
    rw [e4, e3]
    exact eqv_toPy 59 60 y d (plains_get pys hy) pd
  have idx : ∀ i, indexD d ys 0 = some i → ∃ hi : i < its.toArray.size, PyData.eqv (SeqAt.readOf s.heap its.toArray[i]) (toPy d) = true ∧ ∀ j (hj : j < its.toArray.size), j < i → PyData.eqv (SeqAt.readOf s.heap its.toArray[j]) (toPy d) = false := fun i hi => by
    obtain ⟨j, ej, ⟨y, hy, hyy⟩, hno⟩ := indexD_ok hi
    have : i = j := by omega
    subst this
    have hil : i < its.toArray.size := by rw [List.size_toArray, hlen]; exact (List.getElem?_eq_some_iff.mp hy).1
    refine ⟨hil, by rw [at_ i hil y hy]; exact hyy, fun j hj hji => ?_⟩
    have hjy : j < ys.length := by rw [← hlen]; simpa using hj
    rw [at_ j hj ys[j] (List.getElem?_eq_getElem hjy)]
    exact hno j _ hji (List.getElem?_eq_getElem hjy)
  have hsl := sizeLine_eq
  rcases hcase with ⟨rfl, i, hi, rfl⟩ | ⟨rfl, rfl⟩
  · obtain ⟨hi1, hi2, hi3⟩ := idx i hi
    rcases hid with ⟨_, rfl, rfl⟩ | ⟨_, rfl, rfl⟩ | ⟨q, _, _⟩ | ⟨q, _, _⟩
    · exact call_meets PySem.F.slot_list_index ⟨_, ho, rfl⟩ PySem.F.entry_list_index (PySem.F.args_list_index_2 _ _)
        (SeqAt.list_indexAt a its.toArray n dd sl ud (fun u => PyData.eqv (SeqAt.readOf s.heap u) (toPy d)) i hi1 (by have h9 := hi1; rw [List.size_toArray] at h9; omega) hi2 hi3) ⟨ho, heq, ⟨.int (i : Nat), H, I.tok _, ⟨_, rfl⟩, w _ _ (post_same b (.int _))⟩⟩
    · exact call_meets PySem.F.slot_tuple_index ⟨_, ho, rfl⟩ PySem.F.entry_tuple_index (PySem.F.args_tuple_index_2 _ _)
        (TI.tuple_indexAt a its.toArray n dd sl ud (fun u => PyData.eqv (SeqAt.readOf s.heap u) (toPy d)) i hi1 hi2 hi3) ⟨ho, heq, ⟨.int (i : Nat), H, I.tok _, ⟨_, rfl⟩, w _ _ (post_same b (.int _))⟩⟩
    · exact absurd q (by decide)
    · exact absurd q (by decide)
  · have hc := count_at pys pd h4 hlay
    rcases hid with ⟨q, _, _⟩ | ⟨q, _, _⟩ | ⟨_, rfl, rfl⟩ | ⟨_, rfl, rfl⟩
    · exact absurd q (by decide)
    · exact absurd q (by decide)
    · refine call_meets PySem.F.slot_list_count ⟨_, ho, rfl⟩ PySem.F.entry_list_count (PySem.F.args_list_count_2 _ _)
        (SeqAt.list_countAt a its.toArray n dd sl ud (fun u => PyData.eqv (SeqAt.readOf s.heap u) (toPy d))) ⟨ho, heq, ⟨.int _, H, I.tok _, ⟨_, rfl⟩, ?_⟩⟩
      show Q (.int (its.toArray.toList.countP _ : Nat)) H
      have e5 : its.toArray.toList.countP (fun u => PyData.eqv (SeqAt.readOf s.heap u) (toPy d)) = (ys.filter fun y => eqD y d).length := hc
      rw [e5]
      exact w _ _ (post_same b (.int _))
    · refine call_meets PySem.F.slot_tuple_count ⟨_, ho, rfl⟩ PySem.F.entry_tuple_count (PySem.F.args_tuple_count_2 _ _)
        (SeqAt.tuple_countAt a its.toArray n dd sl ud (fun u => PyData.eqv (SeqAt.readOf s.heap u) (toPy d))) ⟨ho, heq, ⟨.int _, H, I.tok _, ⟨_, rfl⟩, ?_⟩⟩
      show Q (.int (its.toArray.toList.countP _ : Nat)) H
      have e5 : its.toArray.toList.countP (fun u => PyData.eqv (SeqAt.readOf s.heap u) (toPy d)) = (ys.filter fun y => eqD y d).length := hc
      rw [e5]
      exact w _ _ (post_same b (.int _))
end
end Mi
end
section
set_option linter.all false
set_option Elab.async false
set_option maxHeartbeats 2000000
set_option autoImplicit false
namespace Mi
open PySem L2
section
variable {G : Gx} {X : L2.Cx} {Wx : WX} {pos : Pos} {a b c e : Expr} {es : List Expr} {r : Sg → List Ob → R (List W)} {va vb vc : Sg → List Ob → R Val} {cx : Cx}
/-- a value, then arguments (the kind told by the value) -/
theorem tWK {σ : L2.St} {H : Hp} {Q : VK} {ra : Sg → List Ob → R W} {g : List Ob → W → Option Bool} {P : Bool → V → Hp → Prop} {f : Bool → W → List W → List Ob → R Val}
    (h : tE G Wx (fun τ o => bnd (ra τ o) fun x o1 => match g o1 x with | some k => bnd (r τ o1) fun ws o2 => f k x ws o2 | none => .bad) σ H Q)
    (hg : ∀ ρ H o x v k, Obs G ρ ρ H o → RW G ρ ρ H x v → g o x = some k → P k v H) :
    ∃ k, tW G Wx ra σ H fun v H1 => P k v H1 ∧ tA G Wx r σ H1 fun vs H2 => ∃ ρ o x ws, Obs G ρ ρ H2 o ∧ RW G ρ ρ H2 x v ∧ RWs G ρ ρ H2 ws vs ∧ RP G Wx ρ H2 σ (WantV G ρ H2 Q) (f k x ws o) := by
  obtain ⟨ρ, τ, o, b, l, h⟩ := h
  have h1 := RP.bnd h
  cases z : ra τ o with
  | exc x o1 => exact ⟨true, ρ, τ, o, b, l, by rw [z] at h1 ⊢; exact h1⟩
  | bad => rw [z] at h1; exact h1.elim
  | ok x o1 =>
    rw [z] at h1
    have h1 : RP G Wx ρ H σ (WantV G ρ H Q) (match g o1 x with | some k => bnd (r τ o1) fun ws o2 => f k x ws o2 | none => .bad) := h1
    cases y : g o1 x with
    | none => rw [y] at h1; exact h1.elim
    | some k =>
      rw [y] at h1
      refine ⟨k, ρ, τ, o, b, l, ?_⟩
      rw [z]
      intro v H1 hp
      obtain ⟨ρ1, p, s, b1, rx⟩ := hp
      refine ⟨hg ρ1 H1 o1 x v k b1 rx y, ρ1, τ, o1, b1, l.step p s b.zm, (RP.bnd h1).lift p s fun ws o2 q vs H2 hp2 => ?_⟩
      obtain ⟨ρ2, p2, s2, b2, r2⟩ := hp2
      exact ⟨ρ2, o2, x, ws, b2, rx.step p2 s2 b1.zm, r2, q.lift (p.trans p2) (s.trans s2) fun _ _ q => WantV.lift (p.trans p2) (s.trans s2) q⟩
variable {o : Expr} {name : Str} {apos cpos : Pos} {idl idt : String}
theorem ee_mth {m : Nat} (hl : MtR X idl (rMth G m true)) (ht : MtR X idt (rMth G m false)) (sl : Slot "list" name idl) (st : Slot "tuple" name idt)
    (yl : typeOf (.builtin idl) = pure (.type "method_descriptor")) (yt : typeOf (.builtin idt) = pure (.type "method_descriptor")) (pl : PlainAttrs "list") (ptp : PlainAttrs "tuple")
    (ho : EE G X Wx o va) (hn : noArgs o = true) (ha : PA X [e] (tA G Wx r)) (hs : isStar e = false) (hline : (apos.endLine == cpos.line) = true) :
    EE G X Wx (.Call (.Attribute o name apos) [e] [] cpos) (fun τ o => bnd (asW (va τ o)) fun x o1 => match kindW o1 x with | some k => bnd (r τ o1) fun ws o2 => mthR m k x ws o2 | none => .bad) :=
  EE.of (PE.weak (PE.or (pe_bmx1 (Ty := LstTy) tyOk_lst pl sl yl hl ho.w ha hn hs hline) (pe_bmx1 (Ty := TupTy) tyOk_tup ptp st yt ht ho.w ha hn hs hline)) fun σ H Q h => by
    obtain ⟨k, h⟩ := tWK (P := fun k v H => if k then LstTy v H else TupTy v H) h fun ρ H o x v k b rx e => kindW_ok b rx e
    have fin : ∀ (k : Bool) (vs : List V) (v : V) (H2 : Hp), (∃ ρ o x ws, Obs G ρ ρ H2 o ∧ RW G ρ ρ H2 x v ∧ RWs G ρ ρ H2 ws vs ∧ RP G Wx ρ H2 σ (WantV G ρ H2 Q) (mthR m k x ws o)) → rMth G m k v vs H2 Q := by
      rintro k vs v H2 ⟨ρ, o, x, ws, b, rx, rws, q⟩
      cases z : mthR m k x ws o with
      | ok val o' => rw [z] at q; exact ⟨ρ, o, x, ws, val, o', b, rx, rws, z, q⟩
      | exc e o' => exact absurd z mthR_ne
      | bad => rw [z] at q; exact q.elim
    cases k with
    | true => exact .inl (h.mono fun v H1 ⟨p, q⟩ => ⟨by simpa using p, q.mono fun vs H2 q => fin true vs v H2 q⟩)
    | false => exact .inr (h.mono fun v H1 ⟨p, q⟩ => ⟨by simpa using p, q.mono fun vs H2 q => fin false vs v H2 q⟩)) rfl
/-! ### a list of the store is changed -/
section
variable {ρ : List Addr} {H : Hp} {ob : List Ob} {n : Nat} {ad : Addr} {vs vs' : List V} {ws ws' : List W}
theorem stp_upd {u : HO} (hm : ad ∈ ρ) (hH : ∃ u, H ad = some u) : Stp ρ H ρ (upd H ad u) :=
  ⟨fun x y h hn => by rw [upd_ne (fun z => hn (by rw [z]; exact hm))]; exact h, fun _ m => .inl m, fun x y h => by
    by_cases hx : x = ad
    · subst hx; exact ⟨_, upd_same⟩
    · exact ⟨y, by rw [upd_ne hx]; exact h⟩⟩
theorem Obs.upd {u : HO} {w : Ob} (b : Obs G ρ ρ H ob) (ha : ρ[n]? = some ad) (hu : Mut (some u)) (hH : ∃ u, H ad = some u) (hw : ROb G ρ ρ (L2.upd H ad u) n ad w) : Obs G ρ ρ (L2.upd H ad u) (ob.set n w) := by
  have hm := mem_of_get ha
  have s : Stp ρ H ρ (L2.upd H ad u) := stp_upd hm hH
  refine ⟨b.sub, b.nd, by rw [List.length_set]; exact b.len, fun x m => ?_, fun k v x e q => ?_, fun x m => ⟨by
    rw [upd_ne (fun z => (b.av x m).2 (by rw [z]; exact b.sub _ hm))]
    exact (b.av x m).1, (b.av x m).2⟩, fun e he => (b.er e he).step s b.zm⟩
  · by_cases hx : x = ad
    · rw [hx, upd_same]; exact hu
    · rw [upd_ne hx]; exact b.zm x m
  · by_cases hk : n = k
    · subst hk
      have hlt : n < ob.length := by rw [← b.len]; exact (List.getElem?_eq_some_iff.mp ha).1
      rw [List.getElem?_set_self hlt] at e
      cases e
      rw [ha] at q; cases q
      exact hw
    · rw [List.getElem?_set_ne hk] at e
      have hx : x ≠ ad := fun z => hk (by
        subst z
        obtain ⟨h1, e1⟩ := List.getElem?_eq_some_iff.mp ha
        obtain ⟨h2, e2⟩ := List.getElem?_eq_some_iff.mp q
        exact (List.getElem_inj b.nd).mp (e1.trans e2.symm))
      exact (b.ob k v x e q).to (fun u e => by rw [upd_ne hx]; exact e) (fun _ _ _ r => r.step List.prefix_rfl s b.zm) (fun _ t => tab_keep t (fun u e => by rw [upd_ne hx]; exact e) (fun c f e => by rw [upd_ne (fun z => by have qq := b.zm ad (b.sub _ hm); rw [← z, e] at qq; exact qq)]; exact e)) rfl rfl rfl rfl rfl
theorem post_upd {u : HO} {w : Ob} {d : W} {v : V} (b : Obs G ρ ρ H ob) (ha : ρ[n]? = some ad) (hu : Mut (some u)) (hH : ∃ u, H ad = some u) (hw : ROb G ρ ρ (L2.upd H ad u) n ad w) (rd : RW G ρ ρ H d v) :
    PostV G ρ H (.w d) (ob.set n w) v (L2.upd H ad u) :=
  ⟨ρ, List.prefix_rfl, stp_upd (mem_of_get ha) hH, b.upd ha hu hH hw, rd.step List.prefix_rfl (stp_upd (mem_of_get ha) hH) b.zm⟩
theorem rob_lst (b : Obs G ρ ρ H ob) (ha : ρ[n]? = some ad) (hH : ∃ u, H ad = some u) (r : RWs G ρ ρ H ws' vs') (hl : ∀ w ∈ ws', locOk n w) : ROb G ρ ρ (L2.upd H ad (.lst vs')) n ad (.lst ws') :=
  ⟨vs', upd_same, r.step List.prefix_rfl (stp_upd (mem_of_get ha) hH) b.zm, hl⟩
theorem putIn_ok {w w' : W} {v : V} (e : putIn n ob w = some w') (r : RW G ρ ρ H w v) : RW G ρ ρ H w' v ∧ locOk n w' := by
  cases w with
  | d x => cases e; exact ⟨r, trivial⟩
  | loc k =>
    unfold putIn at e
    split at e <;> rename_i q
    · cases q
    · cases q
      split at e
      · rename_i h; cases e; exact ⟨r, h⟩
      · cases e
end
def rMut (G : Gx) (m : Nat) : V → List V → Hp → VK → Prop := fun x xs H Q => ∃ ρ o wx ws val o', Obs G ρ ρ H o ∧ RW G ρ ρ H wx x ∧ RWs G ρ ρ H ws xs ∧ mutR m wx ws o = .ok val o' ∧ WantV G ρ H Q val o'
theorem mutR_ne {m : Nat} {x : W} {ws : List W} {o o1 : List Ob} {e : Ex} : mutR m x ws o ≠ .exc e o1 := by
  unfold mutR
  split
  · unfold mutW
    repeat' split
    all_goals (intro h; cases h)
  · intro h; cases h
theorem rws_append {ρ zs : List Addr} {H : Hp} : ∀ {ws us : List W} {vs ys : List V}, RWs G ρ zs H ws vs → RWs G ρ zs H us ys → RWs G ρ zs H (ws ++ us) (vs ++ ys)
  | _, _, _, _, .nil, s => s
  | _, _, _, _, .cons h r, s => .cons h (rws_append r s)
theorem rws_dropLast {ρ zs : List Addr} {H : Hp} {ws : List W} {vs : List V} (h : RWs G ρ zs H ws vs) : RWs G ρ zs H ws.dropLast vs.dropLast := by
  induction h with
  | nil => exact .nil
  | cons r t ih =>
    cases t with
    | nil => exact .nil
    | cons q t' => exact .cons r ih
theorem rws_erase {ρ zs : List Addr} {H : Hp} : ∀ {ws : List W} {vs : List V} (i : Nat), RWs G ρ zs H ws vs → RWs G ρ zs H (ws.eraseIdx i) (vs.eraseIdx i)
  | _, _, _, .nil => .nil
  | _, _, 0, .cons _ t => t
  | _, _, i + 1, .cons r t => .cons r (rws_erase i t)
theorem rws_set {ρ zs : List Addr} {H : Hp} {w : W} {v : V} (h : RW G ρ zs H w v) : ∀ {ws : List W} {vs : List V} (i : Nat), RWs G ρ zs H ws vs → RWs G ρ zs H (ws.set i w) (vs.set i v)
  | _, _, _, .nil => .nil
  | _, _, 0, .cons _ t => .cons h t
  | _, _, i + 1, .cons r t => .cons r (rws_set h i t)
theorem rws_1 {ρ zs : List Addr} {H : Hp} {w : W} {vs : List V} (h : RWs G ρ zs H [w] vs) : ∃ v, vs = [v] ∧ RW G ρ zs H w v := by
  cases h with
  | cons r t => cases t; exact ⟨_, rfl, r⟩
theorem seqIx (n : Nat) (i : Int) : seqIndex? i n = ixN n i := by
  unfold seqIndex? ixN
  first | rfl | skip
  all_goals (repeat' split) <;> first | rfl | omega | (simp_all; omega) | simp_all
theorem mt_mutAppend : MtR X "list.append" (rMut G Mt.append) := by
  intro pins s σ H x xs v us Q I rx rs h
  obtain ⟨ρ, o, wx, ws, val, o', b, hx, hws, e, w⟩ := h
  cases wx with
  | d d => cases e
  | loc n =>
    obtain ⟨ad, ea, rfl⟩ := hx
    unfold mutR mutW at e
    simp only at e
    cases q : o[n]? with
    | none => simp [q] at e
    | some u =>
      have rb := b.ob n u ad q ea
      cases u with
      | lst ls =>
        rw [q] at e
        simp only [show Mt.append = Mt.append from rfl, if_true] at e
        split at e
        · rename_i y
          obtain ⟨v1, rfl, r1⟩ := rws_1 hws
          cases z : putIn n o y with
          | none => simp [z] at e
          | some w' =>
            simp only [z] at e
            split at e
            · rename_i hlt
              cases e
              obtain ⟨vs, ha, rvs, hl⟩ := rb
              obtain ⟨rw', lk⟩ := putIn_ok z r1
              refine mt_append pins s σ H _ _ v us Q I rx rs ⟨ad, vs, v1, rfl, rfl, ha, by rw [← rvs.length]; exact Nat.lt_of_lt_of_eq hlt sizeLine_eq.symm, ?_⟩
              refine w _ _ (post_upd b ea trivial ⟨_, ha⟩ (rob_lst b ea ⟨_, ha⟩ (rws_append rvs (.cons rw' .nil)) fun x m => ?_) RD.non)
              rcases List.mem_append.mp m with m | m
              · exact hl x m
              · rw [List.mem_singleton.mp m]; exact lk
            · cases e
        · cases e
      | _ => first | exact rb.elim | (simp [q] at e)
theorem mt_mutExtend : MtR X "list.extend" (rMut G Mt.extend) := by
  intro pins s σ H x xs v us Q I rx rs h
  obtain ⟨ρ, o, wx, ws, val, o', b, hx, hws, e, w⟩ := h
  cases wx with
  | d d => cases e
  | loc n =>
    obtain ⟨ad, ea, rfl⟩ := hx
    unfold mutR mutW at e
    simp only at e
    cases q : o[n]? with
    | none => simp [q] at e
    | some u =>
      have rb := b.ob n u ad q ea
      cases u with
      | lst ls =>
        rw [q] at e
        simp only [show ¬ Mt.extend = Mt.append by decide, show ¬ Mt.extend = Mt.pop by decide, if_false, if_true] at e
        split at e
        · rename_i y
          obtain ⟨v1, rfl, r1⟩ := rws_1 hws
          split at e
          · rename_i ys hy
            split at e
            · rename_i hlt
              cases e
              obtain ⟨vs, ha, rvs, hl⟩ := rb
              have hv := view_ok b hy r1
              obtain ⟨bd, zs, rfl, hb, rz⟩ := hv
              cases rx
              obtain ⟨u1, rfl, ru⟩ := rs.one
              cases ru
              obtain ⟨z, its, nn, r, hl3, e⟩ := I.lstM ha
              obtain ⟨z2, its2, n2, r2, hl2, e2⟩ := Inv.lstR I hb
              have hss := sizeLine_eq
              have hl5 := rvs.length
              have hl6 := rz.length
              have hl7 := r.length
              have hl8 := r2.length
              have hlt' : ls.length + ys.length ≤ 16777216 := hlt
              have hsz : its.toArray.size + its2.toArray.size ≤ sizeLine := by rw [List.size_toArray, List.size_toArray]; omega
              have hlong : ¬ (!its.toArray.isEmpty && Builtin.List.listTooLong (its.toArray.size + its2.toArray.size)) = true := by
                rw [notLongL hsz, Bool.and_false]
                exact Bool.false_ne_true
              refine call_meets PySem.F.slot_list_extend ⟨_, e, rfl⟩ PySem.F.entry_list_extend (PySem.F.args_list_extend_2 _ _)
                (AutoSeq1.list_extend_list_list_0 ad its.toArray nn bd its2.toArray n2 hlong (by rw [List.size_toArray]; omega) (by omega)) ⟨e, e2, ?_⟩
              refine ⟨.non, _, I.lset (its' := its ++ its2) ha e (by simp) (r.append r2) ?_, rfl, ?_⟩
              · rw [List.length_append]; omega
              · refine w _ _ (post_upd b ea trivial ⟨_, ha⟩ (rob_lst b ea ⟨_, ha⟩ (rws_append rvs (rws_of rz)) fun x m => ?_) RD.non)
                rcases List.mem_append.mp m with m | m
                · exact hl x m
                · obtain ⟨y', _, rfl⟩ := List.mem_map.mp m; trivial
            · cases e
          · cases e
        · cases e
      | _ => first | exact rb.elim | (simp [q] at e)
theorem mt_mutPop : MtR X "list.pop" (rMut G Mt.pop) := by
  intro pins s σ H x xs v us Q I rx rs h
  obtain ⟨ρ, o, wx, ws, val, o', b, hx, hws, e, w⟩ := h
  cases wx with
  | d d => cases e
  | loc n =>
    obtain ⟨ad, ea, rfl⟩ := hx
    unfold mutR mutW at e
    simp only at e
    cases q : o[n]? with
    | none => simp [q] at e
    | some u =>
      have rb := b.ob n u ad q ea
      cases u with
      | lst ls =>
        rw [q] at e
        simp only [show ¬ Mt.pop = Mt.append by decide, if_false, if_true] at e
        obtain ⟨vs, ha, rvs, hl⟩ := rb
        split at e
        · cases hws
          split at e
          · rename_i wz hz
            cases e
            obtain ⟨vz, h1, h2⟩ := rws_get rvs hz
            refine mt_pop pins s σ H _ _ v us Q I rx rs ⟨ad, vs, vz, rfl, rfl, ha, by rw [← rvs.length]; exact h1, ?_⟩
            exact w _ _ (post_upd b ea trivial ⟨_, ha⟩ (rob_lst b ea ⟨_, ha⟩ (rws_dropLast rvs) fun x m => hl x (List.dropLast_subset _ m)) h2)
          · cases e
        · rename_i i
          obtain ⟨v1, rfl, r1⟩ := rws_1 hws
          cases r1
          split at e
          · rename_i j hj
            split at e
            · rename_i wz hz
              cases e
              obtain ⟨vz, h1, h2⟩ := rws_get rvs hz
              have hlen := rvs.length
              obtain ⟨hzz, its, nn, rv, hl2, eo⟩ := I.lstM ha
              have hb : -(2 ^ 63) ≤ i ∧ i < 2 ^ 63 := by
                have hsz := sizeLine_eq
                unfold ixN at hj
                split at hj
                · split at hj
                  · omega
                  · cases hj
                · split at hj
                  · omega
                  · cases hj
              refine mt_popAt pins s σ H _ _ v us Q I rx rs ⟨ad, vs, i, j, vz, rfl, rfl, ha, hb.1, hb.2, by rw [seqIx, ← hlen]; exact hj, h1, ?_⟩
              exact w _ _ (post_upd b ea trivial ⟨_, ha⟩ (rob_lst b ea ⟨_, ha⟩ (rws_erase j rvs) fun x m => hl x (List.mem_of_mem_eraseIdx m)) h2)
            · cases e
          · cases e
        · cases e
      | _ => first | exact rb.elim | (simp [q] at e)
end
end Mi
end
section
set_option linter.all false
set_option Elab.async false
set_option maxHeartbeats 2000000
set_option autoImplicit false
namespace Mi
open PySem L2
section
variable {G : Gx} {X : L2.Cx} {Wx : WX} {pos : Pos} {a b c e : Expr} {es : List Expr} {r : Sg → List Ob → R (List W)} {va vb vc : Sg → List Ob → R Val} {cx : Cx}
variable {o : Expr} {name : Str} {apos cpos : Pos} {id : String}
theorem tA_nil {σ : L2.St} {H : Hp} {Q : List V → Hp → Prop} (h : tA G Wx (fun _ o => .ok [] o) σ H Q) : Q [] H := by
  obtain ⟨ρ, τ, o, b, l, h⟩ := h
  exact h [] H ⟨ρ, List.prefix_rfl, Stp.refl, b, .nil⟩
def mutE (m : Nat) (va : Sg → List Ob → R Val) (r : Sg → List Ob → R (List W)) : Sg → List Ob → R Val := fun τ o => bnd (asW (va τ o)) fun x o1 => match kindW o1 x with
    | some true => bnd (r τ o1) fun ws o2 => mutR m x ws o2
    | _ => .bad
theorem mut_want {m : Nat} {σ : L2.St} {H : Hp} {Q : VK} (h : tE G Wx (mutE m va r) σ H Q) : tW G Wx (fun τ o => asW (va τ o)) σ H fun v H1 => LstTy v H1 ∧ tA G Wx r σ H1 fun vs H2 => rMut G m v vs H2 Q := by
  have h' : tE G Wx (fun τ o => bnd (asW (va τ o)) fun x o1 => match (match kindW o1 x with | some true => some true | _ => none : Option Bool) with | some k => bnd (r τ o1) fun ws o2 => (fun _ x ws o2 => mutR m x ws o2 : Bool → W → List W → List Ob → R Val) k x ws o2 | none => .bad) σ H Q := by
    have e : (fun (τ : Sg) (o : List Ob) => bnd (asW (va τ o)) fun x o1 => match (match kindW o1 x with | some true => some true | _ => none : Option Bool) with | some k => bnd (r τ o1) fun ws o2 => (fun _ x ws o2 => mutR m x ws o2 : Bool → W → List W → List Ob → R Val) k x ws o2 | none => .bad) = mutE m va r := by
      funext τ o
      unfold mutE
      congr 1
      funext x o1
      rcases kindW o1 x with _ | (_ | _) <;> rfl
    rw [e]; exact h
  obtain ⟨k, h2⟩ := tWK (P := fun _ v H => LstTy v H) h' fun ρ H o x v k b rx e => by
    have e2 : kindW o x = some true := by
      rcases z : kindW o x with _ | (_ | _) <;> simp [z] at e <;> rfl
    simpa using kindW_ok b rx e2
  refine h2.mono fun v H1 ⟨p, q⟩ => ⟨p, q.mono fun vs H2 ⟨ρ, o, x, ws, b, rx, rws, q⟩ => ?_⟩
  cases z : mutR m x ws o with
  | ok val o' => have q : RP G Wx ρ H2 σ (WantV G ρ H2 Q) (mutR m x ws o) := q; rw [z] at q; exact ⟨ρ, o, x, ws, val, o', b, rx, rws, z, q⟩
  | exc e o' => exact absurd z mutR_ne
  | bad => have q : RP G Wx ρ H2 σ (WantV G ρ H2 Q) (mutR m x ws o) := q; rw [z] at q; exact q.elim
theorem ee_mut1 {m : Nat} (hl : MtR X id (rMut G m)) (sl : Slot "list" name id) (yl : typeOf (.builtin id) = pure (.type "method_descriptor")) (pl : PlainAttrs "list")
    (ho : EE G X Wx o va) (hn : noArgs o = true) (ha : PA X [e] (tA G Wx r)) (hs : isStar e = false) (hline : (apos.endLine == cpos.line) = true) :
    EE G X Wx (.Call (.Attribute o name apos) [e] [] cpos) (mutE m va r) :=
  EE.of (PE.weak (pe_bmx1 (Ty := LstTy) tyOk_lst pl sl yl hl ho.w ha hn hs hline) fun σ H Q h => mut_want h) rfl
theorem ee_mut0 {m : Nat} (hl : MtR X id (rMut G m)) (sl : Slot "list" name id) (yl : typeOf (.builtin id) = pure (.type "method_descriptor")) (pl : PlainAttrs "list")
    (ho : EE G X Wx o va) (hn : noArgs o = true) (hline : (apos.endLine == cpos.line) = true) :
    EE G X Wx (.Call (.Attribute o name apos) [] [] cpos) (mutE m va fun _ o => .ok [] o) :=
  EE.of (PE.weak (pe_bmx0 (Ty := LstTy) tyOk_lst pl sl yl hl ho.w hn hline) fun σ H Q h => (mut_want h).mono fun v H1 ⟨p, q⟩ => ⟨p, tA_nil q⟩) rfl
/-! ### slices -/
/-- a part of a slice, by the evaluator's word -/
def tPO (G : Gx) (Wx : WX) (bl : Bool) (r : Sg → List Ob → R W) : TO := fun σ H Q => tW G Wx r σ H fun x H1 => if bl then ∃ i, x = .int i ∧ Q (some i) H1 else Q none H1
theorem po_no : PO X none (tPO G Wx false fun _ o => asW (.ok (.w (.d .non)) o)) := ⟨fun pins s σ H Q I h => po_none.run pins s σ H Q I (by
  obtain ⟨ρ, τ, o, b, l, h⟩ := h
  have q := h .non H ⟨ρ, List.prefix_rfl, Stp.refl, b, .non⟩
  show Q none H
  simpa using q)⟩
theorem po_yes (h : EE G X Wx e va) : PO X (some e) (tPO G Wx true fun τ o => asW (va τ o)) := ⟨fun pins s σ H Q I q => (po_some h.w).run pins s σ H Q I (tW.mono q fun v H' z => by simpa using z)⟩
def rSlW (G : Gx) : V → Option Int → Option Int → Hp → VK → Prop := fun x lo hi H Q => ∃ ρ o wx d val, Obs G ρ ρ H o ∧ RW G ρ ρ H wx x ∧ view o wx = some d ∧ slD d lo hi = some val ∧ WantV G ρ H Q val o
theorem sIx_eq (n d : Nat) (i : Option Int) : sIx n d i = HT.sIx n d i := by
  cases i with
  | none => rfl
  | some i => unfold sIx HT.sIx; first | rfl | (split <;> split <;> omega)
theorem rds_drop {zs : List Addr} {H : Hp} : ∀ {xs : List D} {vs : List V} (n : Nat), RDs G zs H xs vs → RDs G zs H (xs.drop n) (vs.drop n)
  | _, _, 0, r => r
  | _, _, _ + 1, .nil => .nil
  | _, _, n + 1, .cons _ t => rds_drop n t
theorem rds_take {zs : List Addr} {H : Hp} : ∀ {xs : List D} {vs : List V} (n : Nat), RDs G zs H xs vs → RDs G zs H (xs.take n) (vs.take n)
  | _, _, 0, _ => .nil
  | _, _, _ + 1, .nil => .nil
  | _, _, n + 1, .cons h t => .cons h (rds_take n t)
theorem rds_cut {zs : List Addr} {H : Hp} {xs : List D} {vs : List V} (lo hi : Option Int) (r : RDs G zs H xs vs) : RDs G zs H (cut xs lo hi) (cutV vs lo hi) := by
  unfold cut cutV
  rw [sIx_eq, sIx_eq, r.length]
  exact rds_take _ (rds_drop _ r)
theorem sl_W (hK : X.K = G.K) : SlR X (rSlW G) := by
  intro pins s σ H x v vl vu lo hi sl Q I rx hs pl pu h
  obtain ⟨ρ, o, wx, d, val, b, hx, e, e2, w⟩ := h
  have hv := view_ok b e hx
  cases d with
  | lst xs =>
    cases e2
    obtain ⟨a, vs, rfl, ha, ra⟩ := hv
    refine sl_list pins s σ H _ v vl vu lo hi sl Q I rx hs pl pu ⟨a, vs, rfl, by rw [hK]; exact .inl ha, fun p hp => w _ _ ?_⟩
    exact post_lst b hp (rds_cut lo hi ra)
  | tup xs =>
    cases e2
    cases hv with
    | tup ha da ra =>
      rename_i a ob vs
      cases rx
      obtain ⟨its, rv, ht, hz⟩ := I.tuple (sqT_frz ha)
      have hlen : its.toArray.size = vs.length := by rw [List.size_toArray]; exact rv.length.symm
      refine ⟨"tuple", _, PyProof.Rows.slot_tuple_getitem.lookup, ht.typeIs, ?_⟩
      by_cases hw : HT.sIx vs.length 0 lo = 0 ∧ HT.sIx vs.length vs.length hi = vs.length
      · refine getItem_tuple_whole ht hs pl pu (by rw [hlen]; exact hw) ⟨.ref a, H, I, rfl, w _ _ (post_same b ?_)⟩
        have ec : cut xs lo hi = xs := by
          unfold cut
          rw [sIx_eq, sIx_eq, ra.length, hw.1, hw.2, ← ra.length]
          simp
        rw [ec]
        exact .tup ha da ra
      · refine HT.getItem_tuple_cut ht hs pl pu (by rw [hlen]; exact hw) ?_ (by rw [hlen]; exact hz)
        rw [hlen]
        refine ⟨.ref s.heap.objs.size, _, Inv.newT (t' := s.toks) I ((rv.drop (HT.sIx vs.length 0 lo)).take (HT.sIx vs.length vs.length hi - HT.sIx vs.length 0 lo)) (Nat.le_trans (cutV_length vs lo hi) hz), rfl, w _ _ ?_⟩
        exact post_tup b (I.hok.fresh (Nat.le_refl _)) rfl (rds_cut lo hi ra)
  | _ => cases e2
theorem part_ok {ρ : List Addr} {H : Hp} {o : List Ob} {k : Bool} {y : W} {u : V} {d : Option Int} (P : Option Int → Prop) (ry : RW G ρ ρ H y u) (e : partW k y = some d) (p : P d) : if k then ∃ i, u = V.int i ∧ P (some i) else P none := by
  cases k with
  | false => cases e; simpa using p
  | true =>
    unfold partW at e
    simp only [if_true] at e
    split at e
    · rename_i i
      cases e
      cases ry
      simp only [if_true]
      exact ⟨_, rfl, p⟩
    · cases e
def slE (bl bh : Bool) (va vb vc : Sg → List Ob → R Val) : Sg → List Ob → R Val := fun τ o => bnd (asW (va τ o)) fun x o1 => bnd (asW (vb τ o1)) fun y o2 => bnd (okO (partW bl y) o2) fun l o3 => bnd (asW (vc τ o3)) fun z o4 => bnd (okO (partW bh z) o4) fun h o5 => slR x l h o5
theorem tPO_ok {σ : L2.St} {H : Hp} {bl bh : Bool} {Q : VK} (h : tE G Wx (slE bl bh va vb vc) σ H Q) :
    tSl (rSlW G) (tW G Wx fun τ o => asW (va τ o)) (tPO G Wx bl fun τ o => asW (vb τ o)) (tPO G Wx bh fun τ o => asW (vc τ o)) σ H Q := by
  obtain ⟨ρ, τ, o, b, l, h⟩ := h
  refine ⟨ρ, τ, o, b, l, RP.mono (RP.bnd h) fun x o1 q v H1 hp => ?_⟩
  obtain ⟨ρ1, p, s, b1, rx⟩ := hp
  refine ⟨ρ1, τ, o1, b1, l.step p s b.zm, (RP.bnd q).lift p s fun y o2 q u H2 hp => ?_⟩
  obtain ⟨ρ2, p2, s2, b2, ry⟩ := hp
  obtain ⟨lo, hlo, q⟩ := RP.okO (RP.bnd q)
  have p12 := p.trans p2
  have s12 := s.trans s2
  refine part_ok (o := o2) (fun lo => tPO G Wx bh (fun τ o => asW (vc τ o)) σ H2 fun hi H3 => rSlW G v lo hi H3 Q) ry hlo ?_
  refine ⟨ρ2, τ, o2, b2, l.step p12 s12 b.zm, (RP.bnd q).lift p12 s12 fun z o3 q w H3 hp => ?_⟩
  obtain ⟨ρ3, p3, s3, b3, rz⟩ := hp
  obtain ⟨hi, hhi, q⟩ := RP.okO (RP.bnd q)
  have q : RP G Wx ρ H σ (WantV G ρ H Q) (slR x lo hi o3) := q
  unfold slR at q
  cases e1 : view o3 x with
  | none => rw [e1] at q; exact False.elim q
  | some d =>
    rw [e1] at q
    obtain ⟨val, e4, wv⟩ := RP.okO q
    exact part_ok (o := o3) (fun hi => rSlW G v lo hi H3 Q) rz hhi ⟨ρ3, o3, x, d, val, b3, (rx.step p2 s2 b1.zm).step p3 s3 b2.zm, e1, e4, WantV.lift (p12.trans p3) (s12.trans s3) wv⟩
theorem ee_sl {bl bh : Bool} {lo hi : Option Expr} {p2 : Pos} (hK : X.K = G.K) (ha : EE G X Wx a va) (hl : PO X lo (tPO G Wx bl fun τ o => asW (vb τ o))) (hh : PO X hi (tPO G Wx bh fun τ o => asW (vc τ o))) :
    EE G X Wx (.Subscript a (.Slice lo hi none p2) pos) (slE bl bh va vb vc) :=
  EE.of (PE.weak (pe_slice (sl_W hK) ha.w hl hh) fun σ H Q h => tPO_ok h) rfl
/-! ### xs[::-1] -/
theorem sliceApplied_rev {prog : Program} {w : World} {A : Around} {E : Value → Shared → Prop} {s : Shared} {sl : Addr} {vl vu vs : Value} {n : Nat} {Q : Int × Int × Nat → Shared → Prop} (hs : s.heap.IsSliceOf sl vl vu vs) (pl : IsPart vl none) (pu : IsPart vu none) (ps : IsPart vs (some (-1)))
    (h : Q ((n : Int) - 1, -1, n) s) : wpAny (model prog w) A (Builtin.Slice.sliceApplied (.ref sl) (pure (n : Int))) Q E s := by
  obtain ⟨os, hos, hcs, hds⟩ := id hs
  unfold Builtin.Slice.sliceApplied Builtin.Slice.sliceFields
  refine wpAny_bind (wpAny_bind (wpAny_field hos hds (x := vl) rfl (wpAny_bind (wpAny_field hos hds (x := vu) rfl (wpAny_bind (wpAny_field hos hds (x := vs) rfl (wpAny_pure ?_)))))))
  refine wpAny_bind (HT.slicePart_ ps ?_)
  show wpAny _ _ (if ((-1 : Int) == 0) = true then _ else _) _ _ s
  rw [if_neg (by decide)]
  refine wpAny_bind (HT.slicePart_ pl (wpAny_bind (HT.slicePart_ pu (wpAny_bind (wpAny_pure ?_)))))
  show wpAny _ _ (match Builtin.Slice.sliceAdjust none none (-1) (n : Int) with | (lo, hi) => pure (lo, (-1 : Int), Builtin.Slice.slicePlaces lo hi (-1))) _ _ s
  have e1 : Builtin.Slice.sliceAdjust none none (-1) (n : Int) = ((n : Int) - 1, -1) := by
    unfold Builtin.Slice.sliceAdjust
    simp
  rw [e1]
  have e2 : Builtin.Slice.slicePlaces ((n : Int) - 1) (-1) (-1) = n := by
    unfold Builtin.Slice.slicePlaces
    simp
    try omega
  show wpAny _ _ (pure ((n : Int) - 1, (-1 : Int), Builtin.Slice.slicePlaces ((n : Int) - 1) (-1) (-1))) _ _ s
  rw [e2]
  exact wpAny_pure h
theorem fm_congr {α β : Type} {f g : α → Option β} : ∀ {l : List α}, (∀ a ∈ l, f a = g a) → l.filterMap f = l.filterMap g
  | [], _ => rfl
  | a :: l, h => by
    rw [List.filterMap_cons, List.filterMap_cons, h a (by simp), fm_congr fun b hb => h b (by simp [hb])]
theorem pick_rev (xs : List Value) : ((List.range xs.length).filterMap fun (m : Nat) => xs.toArray[(((xs.length : Nat) : Int) - 1 + (m : Int) * (-1)).toNat]?) = xs.reverse := by
  have e : ∀ m ∈ List.range xs.length, xs.toArray[(((xs.length : Nat) : Int) - 1 + (m : Int) * (-1)).toNat]? = xs.reverse[m]? := fun m hm => by
    have hlt : m < xs.length := List.mem_range.mp hm
    have : (((xs.length : Nat) : Int) - 1 + (m : Int) * (-1)).toNat = xs.length - 1 - m := by omega
    rw [this, List.getElem?_reverse hlt]
    simp
  rw [fm_congr e]
  have go : ∀ ys : List Value, ((List.range ys.length).filterMap fun m => ys[m]?) = ys := by
    intro ys
    induction ys with
    | nil => rfl
    | cons y ys ih =>
      rw [List.length_cons, List.range_succ_eq_map, List.filterMap_cons]
      simp only [List.getElem?_cons_zero, List.filterMap_map]
      congr 1
  have := go xs.reverse
  rw [List.length_reverse] at this
  exact this
theorem getItem_tuple_rev {prog : Program} {w : World} {A : Around} {E : Value → Shared → Prop} {s : Shared} {t sl : Addr} {its : List Value} {vl vu vs : Value} {Q : Value → Shared → Prop} (ht : PyProof.Rows.IsTup s.heap t its.toArray) (hs : s.heap.IsSliceOf sl vl vu vs) (pl : IsPart vl none) (pu : IsPart vu none) (ps : IsPart vs (some (-1)))
    (h : Q (.ref s.heap.objs.size) { s with heap := s.heap.push (TupO its.reverse) }) (hsz : its.length ≤ sizeLine) : wpAny (model prog w) A (getItem (.ref t) (.ref sl)) Q E s := by
  have htake : sizeOk (.seq its.reverse.toArray) := by
    show its.reverse.toArray.size ≤ sizeLine
    rw [List.size_toArray, List.length_reverse]; exact hsz
  obtain ⟨os, hos, hcs, hds⟩ := id hs
  have hTs : s.TypeIs (.ref sl) "slice" := ⟨os, hos, hcs⟩
  unfold getItem
  try with_reducible refine wpAny_holding ?_
  first | refine wpAny_bind (wpAny_pure ?_) | skip
  refine wpAny_bind (wpAny_sequenceKey ht.typeIs (by decide) ?_)
  refine wpAny_bind (wpAny_callSpecial?_slot (name := Str.ofString "__getitem__") ht.typeIs PyProof.Rows.slot_tuple_getitem
    (wpAny_call_entry PyProof.Rows.slot_tuple_getitem ht.typeIs PyProof.Rows.entry_tuple_getitem ?_ (PyProof.Rows.args_tuple_getitem _ _)))
  show wpAny _ _ (Builtin.Tuple.tupleItemsOf (.ref t) >>= _) _ _ s
  refine wpAny_bind (PyProof.Rows.tupleItemsOf_ ht ?_)
  refine wpAny_bind (wpAny_typeOf hTs ?_)
  rw [if_pos (by decide)]
  refine wpAny_bind (sliceApplied_rev (n := its.toArray.size) hs pl pu ps ?_)
  show wpAny _ _ (if ((((its.toArray.size : Nat) : Int) - 1) == 0 && (-1 : Int) == 1 && its.toArray.size == its.toArray.size) = true then _ else _) _ _ s
  rw [if_neg (by simp)]
  have e := pick_rev its
  have e3 : its.toArray.size = its.length := List.size_toArray
  rw [e3, e]
  first
    | exact wpAny_bind (m := Builtin.Tuple.tupleExact _) (wpAny_newObj_type (wpAny_pure ⟨_, rfl, wpAny_pure h⟩) htake)
    | exact wpAny_bind (m := Builtin.Tuple.tupleExact _) (wpAny_newObj_type (wpAny_bind (wpAny_pure (wpAny_pure ⟨_, rfl, wpAny_pure h⟩))) htake)
    | exact wpAny_bind (wpAny_bind (m := Builtin.Tuple.tupleExact _) (wpAny_newObj_type (wpAny_pure (wpAny_pure ⟨_, rfl, wpAny_pure h⟩)) htake))
    | exact wpAny_bind (wpAny_bind (m := Builtin.Tuple.tupleExact _) (wpAny_newObj_type (wpAny_pure ⟨_, rfl, wpAny_pure h⟩) htake))
theorem rds_rev {zs : List Addr} {H : Hp} : ∀ {xs : List D} {vs : List V}, RDs G zs H xs vs → RDs G zs H xs.reverse vs.reverse
  | _, _, .nil => .nil
  | _, _, .cons h t => by rw [List.reverse_cons, List.reverse_cons]; exact RDs.append (rds_rev t) (.cons h .nil)
theorem pe_revW {te : TE} {k : Nat} {p1 p2 p3 : Pos} (hK : X.K = G.K) (he : PE X e te) : PE X (.Subscript e (.Slice none none (some (.UnaryOp .USub (.Constant (.int 1) k p1) p2)) p3) pos)
    (fun σ H Q => te σ H fun x H1 => ∃ ρ o wx d val, Obs G ρ ρ H1 o ∧ RW G ρ ρ H1 wx x ∧ view o wx = some d ∧ revD d = some val ∧ WantV G ρ H1 Q val o) := by
  refine ⟨fun pins s σ H Q I h => ?_⟩
  refine PyProof.Rows.Subscript_ (thn (he.run pins s σ H _ I h) fun v s1 ⟨x, H1, I1, r1, q1⟩ => ?_)
  obtain ⟨ρ, o, wx, d, val, b, hx, ev, er, w⟩ := q1
  have hv := view_ok b ev hx
  have hst : PO X (some (.UnaryOp .USub (.Constant (.int 1) k p1) p2)) (tPart (tUn (rU fun i => .int (-i)) (tC (.int 1)))) := po_some (pe_un un_neg pe_int)
  refine wpAny_Slice (thn (po_none.run pins s1 σ H1 (fun o H2 => o = none ∧ H2 = H1) I1 ⟨rfl, rfl⟩) fun vl s2 ⟨l, H2, I2, pl, el, e2⟩ => ?_)
  subst el e2
  refine thn (po_none.run pins s2 σ H2 (fun o H3 => o = none ∧ H3 = H2) I2 ⟨rfl, rfl⟩) fun vu s3 ⟨u, H3, I3, pu, eu, e3⟩ => ?_
  subst eu e3
  refine thn (hst.run pins s3 σ H3 (fun o H4 => o = some (-1) ∧ H4 = H3) I3 ⟨1, rfl, -1, rfl, rfl, rfl⟩) fun vs s4 ⟨o', H4, I4, ps, eo, e4⟩ => ?_
  subst eo e4
  have I5 : L2.Inv X pins σ H4 { s4 with heap := s4.heap.push { cls := .type "slice", data := .fields #[vl, vu, vs] } } := I4.kept (t' := s4.toks) fun b ob q => Heap.get?_push_of_some _ q
  cases d with
  | lst xs =>
    cases er
    obtain ⟨a, us, rfl, ha, ra⟩ := hv
    cases r1
    have hx' : SqL X.K H4 a us := by rw [hK]; exact .inl ha
    obtain ⟨its, r, ht, hz⟩ := I5.list hx'
    have hlen := r.length
    show wpAny (model X.prog X.w) X.A (PyProof.Rows.subscriptTail e (.Slice none none (some (.UnaryOp .USub (.Constant (.int 1) k p1) p2)) p3) (.ref a) (.ref s4.heap.objs.size)) (EP X pins σ Q) X.xe { s4 with heap := s4.heap.push { cls := .type "slice", data := .fields #[vl, vu, vs] } }
    refine PyProof.Rows.tail_any (ops := [.ref a, .ref s4.heap.objs.size]) ht.isList.typeIs (PySem.slot_list_getitem.lookup) ?_ (by with_unfolding_all rfl)
    refine wpAny_getItem_list_slice ht.isList (Heap.IsSliceOf.new _ vl vu vs) pl pu ps (by decide) ?_ (by rw [List.size_toArray]; omega)
    rw [PySem.W.krv_pick]
    refine ⟨.ref _, _, I5.laid (t' := s4.toks) (o := .lst us.reverse) (fun b ob q => Heap.get?_push_of_some _ q) (Nat.le_refl _) ?_, rfl, w _ _ (post_lst b (I5.hok.fresh (Nat.le_refl _)) (rds_rev ra))⟩
    exact ⟨by rw [List.length_reverse]; exact hz, _, 0, r.reverse, Heap.get?_push_size _ rfl⟩
  | tup xs =>
    cases er
    cases hv with
    | tup ha da ra =>
      rename_i a ob us
      cases r1
      obtain ⟨its, r, ht, hz⟩ := I5.tuple (sqT_frz ha)
      have hlen := r.length
      show wpAny (model X.prog X.w) X.A (PyProof.Rows.subscriptTail e (.Slice none none (some (.UnaryOp .USub (.Constant (.int 1) k p1) p2)) p3) (.ref a) (.ref s4.heap.objs.size)) (EP X pins σ Q) X.xe { s4 with heap := s4.heap.push { cls := .type "slice", data := .fields #[vl, vu, vs] } }
      refine PyProof.Rows.tail_any (ops := [.ref a, .ref s4.heap.objs.size]) ht.typeIs (PyProof.Rows.slot_tuple_getitem.lookup) ?_ (by with_unfolding_all rfl)
      refine getItem_tuple_rev ht (Heap.IsSliceOf.new _ vl vu vs) pl pu ps ?_ (by omega)
      exact ⟨.ref _, _, Inv.newT (t' := s4.toks) I5 r.reverse (by rw [List.length_reverse]; exact hz), rfl, w _ _ (post_tup b (I5.hok.fresh (Nat.le_refl _)) rfl (rds_rev ra))⟩
  | _ => cases er
theorem ee_rev {k : Nat} {p1 p2 p3 : Pos} (hK : X.K = G.K) (ha : EE G X Wx a va) : EE G X Wx (.Subscript a (.Slice none none (some (.UnaryOp .USub (.Constant (.int 1) k p1) p2)) p3) pos) (fun τ o => bnd (asW (va τ o)) fun x o1 => opD1 revD x o1) :=
  EE.of (PE.weak (pe_revW hK ha.w) fun σ H Q h => (tW_one (f := fun _ => opD1 revD) h).mono fun v H1 ⟨ρ, o, τ, w, at_, rw, q⟩ => by
    unfold opD1 at q
    cases e1 : view o w with
    | none => rw [e1] at q; exact False.elim q
    | some d =>
      rw [e1] at q
      obtain ⟨val, e4, wv⟩ := RP.okO q
      exact ⟨ρ, o, w, d, val, at_.ob, rw, e1, e4, wv⟩) rfl
end
end Mi
end
section
set_option linter.all false
set_option Elab.async false
set_option maxHeartbeats 2000000
set_option autoImplicit false
namespace Mi
open PySem L2
section
variable {G : Gx} {X : L2.Cx} {Wx : WX} {pos : Pos} {a b c e : Expr} {es : List Expr} {r : Sg → List Ob → R (List W)} {va vb vc : Sg → List Ob → R Val} {cx : Cx}
variable {ρ ρ1 zs : List Addr} {H H1 H2 : Hp} {o o1 : List Ob} {D : Ends} {σ : L2.St} {τ : Sg}
/-! ### statements: the reading lifted -/
theorem SP.lift {r : SR} (h : SP G Wx ρ H D r) (p : ρ <+: ρ1) (s : Stp ρ H ρ1 H1) : SP G Wx ρ1 H1 D r := by
  cases r with
  | next τ' o' => exact fun σ' H' q => h σ' H' (q.lift p s)
  | ret val o' => exact fun v H' q => h v H' (q.lift p s)
  | brk τ' o' => exact fun σ' H' q => h σ' H' (q.lift p s)
  | cont τ' o' => exact fun σ' H' q => h σ' H' (q.lift p s)
  | exc e τ' o' => exact fun cls d σ' H' q => h cls d σ' H' (q.lift p s)
  | bad => exact h
theorem SP.bnd {α : Type} {r : R α} {f : α → List Ob → SR} (h : SP G Wx ρ H D (bndS r τ f)) (l : Sl G ρ ρ H τ σ) (z : Zm ρ H) : RP G Wx ρ H σ (fun a o => SP G Wx ρ H D (f a o)) r := by
  cases r with
  | ok a o => exact h
  | exc e o =>
    intro cls d H' q
    obtain ⟨ρ', p, s, b, x⟩ := q
    exact h cls d σ H' ⟨ρ', p, s, b, l.step p s z, x⟩
  | bad => exact h
structure AtS (G : Gx) (σ : L2.St) (ρ : List Addr) (H : Hp) (o : List Ob) (τ : Sg) : Prop where
  ob : Obs G ρ ρ H o
  sl : Sl G ρ ρ H τ σ
theorem tS_W {ra : Sg → List Ob → R W} {f : Sg → W → List Ob → SR} (h : tS G Wx (fun τ o => bndS (ra τ o) τ (f τ)) D σ H) : tW G Wx ra σ H fun v H1 => ∃ ρ o τ w, AtS G σ ρ H1 o τ ∧ RW G ρ ρ H1 w v ∧ SP G Wx ρ H1 D (f τ w o) := by
  obtain ⟨ρ, τ, o, b, l, h⟩ := h
  refine ⟨ρ, τ, o, b, l, (SP.bnd h l b.zm).mono fun val o' q v H' hp => ?_⟩
  obtain ⟨ρ1, p, s, b1, r⟩ := hp
  exact ⟨ρ1, o', τ, val, ⟨b1, l.step p s b.zm⟩, r, q.lift p s⟩
theorem tS_A {ra : Sg → List Ob → R (List W)} {f : Sg → List W → List Ob → SR} (h : tS G Wx (fun τ o => bndS (ra τ o) τ (f τ)) D σ H) : tA G Wx ra σ H fun v H1 => ∃ ρ o τ w, AtS G σ ρ H1 o τ ∧ RWs G ρ ρ H1 w v ∧ SP G Wx ρ H1 D (f τ w o) := by
  obtain ⟨ρ, τ, o, b, l, h⟩ := h
  refine ⟨ρ, τ, o, b, l, (SP.bnd h l b.zm).mono fun val o' q v H' hp => ?_⟩
  obtain ⟨ρ1, p, s, b1, r⟩ := hp
  exact ⟨ρ1, o', τ, val, ⟨b1, l.step p s b.zm⟩, r, q.lift p s⟩
/-- one value, another value, then the rest -/
theorem tS_WW {ra rb : Sg → List Ob → R W} {f : Sg → W → W → List Ob → SR} (h : tS G Wx (fun τ o => bndS (ra τ o) τ fun x o1 => bndS (rb τ o1) τ fun y o2 => f τ x y o2) D σ H) :
    tW G Wx ra σ H fun v H1 => tW G Wx rb σ H1 fun u H2 => ∃ ρ o τ x y, AtS G σ ρ H2 o τ ∧ RW G ρ ρ H2 x v ∧ RW G ρ ρ H2 y u ∧ SP G Wx ρ H2 D (f τ x y o) :=
  (tS_W (f := fun τ x o1 => bndS (rb τ o1) τ fun y o2 => f τ x y o2) h).mono fun v H1 ⟨ρ, o, τ, x, at_, rx, q⟩ => by
    refine ⟨ρ, τ, o, at_.ob, at_.sl, (SP.bnd q at_.sl at_.ob.zm).mono fun val o' q v H' hp => ?_⟩
    obtain ⟨ρ1, p, s, b1, r⟩ := hp
    exact ⟨ρ1, o', τ, x, val, ⟨b1, at_.sl.step p s at_.ob.zm⟩, rx.step p s at_.ob.zm, r, q.lift p s⟩
theorem tS_WWW {ra rb rc : Sg → List Ob → R W} {f : Sg → W → W → W → List Ob → SR} (h : tS G Wx (fun τ o => bndS (ra τ o) τ fun x o1 => bndS (rb τ o1) τ fun y o2 => bndS (rc τ o2) τ fun z o3 => f τ x y z o3) D σ H) :
    tW G Wx ra σ H fun v H1 => tW G Wx rb σ H1 fun u H2 => tW G Wx rc σ H2 fun t H3 => ∃ ρ o τ x y z, AtS G σ ρ H3 o τ ∧ RW G ρ ρ H3 x v ∧ RW G ρ ρ H3 y u ∧ RW G ρ ρ H3 z t ∧ SP G Wx ρ H3 D (f τ x y z o) :=
  (tS_WW (f := fun τ x y o1 => bndS (rc τ o1) τ fun z o2 => f τ x y z o2) h).mono fun v H1 h1 => h1.mono fun u H2 ⟨ρ, o, τ, x, y, at_, rx, ry, q⟩ => by
    refine ⟨ρ, τ, o, at_.ob, at_.sl, (SP.bnd q at_.sl at_.ob.zm).mono fun val o' q v H' hp => ?_⟩
    obtain ⟨ρ1, p, s, b1, r⟩ := hp
    exact ⟨ρ1, o', τ, x, y, val, ⟨b1, at_.sl.step p s at_.ob.zm⟩, rx.step p s at_.ob.zm, ry.step p s at_.ob.zm, r, q.lift p s⟩
theorem post_n (b : Obs G ρ ρ H o) {τ' : Sg} {σ' : L2.St} (l : Sl G ρ ρ H τ' σ') : PostN G ρ H τ' o σ' H := ⟨ρ, List.prefix_rfl, Stp.refl, b, l⟩
/-! ### simple statements -/
theorem pg_W {x : Str} {i : Nat} {st : Stmt} {t : TE} (hi : ∀ e, G.er = some e → e.slot ≠ i) (h : PS X st (tAsg t (gName i))) (w : ∀ σ H Q, tW G Wx (fun τ o => asW (va τ o)) σ H Q → t σ H Q) : PS X st (tS G Wx fun τ o => bndS (asW (va τ o)) τ fun w o1 => .next (τ.set i (some w)) o1) :=
  PS.weak h fun D σ H q => w σ H _ ((tS_W (f := fun τ w o1 => .next (τ.set i (some w)) o1) q).mono fun v H1 ⟨ρ, o, τ, w, at_, rw, q⟩ => q _ _ (post_n at_.ob (at_.sl.set i hi rw)))
theorem noSwap {e : Expr} (h : dflt e = true ∨ isBoolOp e = true ∨ isIfExp e = true) : True := trivial
def isComp : Expr → Bool
  | .ListComp _ _ _ _ => true
  | .SetComp _ _ _ _ => true
  | .DictComp _ _ _ _ _ => true
  | _ => false
theorem swaps_no {e : Expr} {t : Option Expr} {n : Nat} {env : Env} (h : isComp e = false) : swapsWith e t n env = pure false := by
  unfold swapsWith
  cases e <;> first | rfl | (simp [isComp] at h)
theorem ps_setE {i : Nat} {x : Str} {pos' : Pos} (he' : ∀ e, G.er = some e → e.slot ≠ i) (hN : X.N.Nodup) (hi : X.N[i]? = some x) (hx : Loc X.env.scope x) (hf : X.fn x = true ∨ X.env.scope.names.lookup x = some .local) (hc : isComp e = false) (he : EE G X Wx e va) :
    PS X (.Assign [.Name x pos'] e pos) (tS G Wx fun τ o => bndS (asW (va τ o)) τ fun w o1 => .next (τ.set i (some w)) o1) :=
  pg_W (x := x) he' (ps_set hN hi hx he.w (swaps_no hc) hf) fun _ _ _ q => q
theorem ps_retE (he : EE G X Wx e va) : PS X (.Return (some e) pos) (tS G Wx fun τ o => bndS (va τ o) τ fun v o1 => .ret v o1) :=
  PS.weak (ps_ret he.pe) fun D σ H ⟨ρ, τ, o, b, l, q⟩ => ⟨ρ, τ, o, b, l, SP.bnd (f := fun v o1 => .ret v o1) q l b.zm⟩
theorem ps_retNE : PS X (.Return none pos) (tS G Wx fun _ o => .ret (.w (.d .non)) o) :=
  PS.weak ps_retN fun D σ H ⟨ρ, τ, o, b, l, q⟩ => q .non H (post_same b .non)
theorem PostV.n {val : Val} {v : V} (l : Sl G ρ ρ H τ σ) (z : Zm ρ H) (h : PostV G ρ H val o v H1) : PostN G ρ H τ o σ H1 := by
  obtain ⟨ρ', p, h⟩ := h
  cases val with
  | w w => exact ⟨ρ', p, h.1, h.2.1, l.step p h.1 z⟩
  | fl ws =>
    obtain ⟨a, vs, e, n, ha, s, b, r⟩ := h
    have sub : ∀ c ∈ ρ', c ∈ a :: ρ' := fun c m => List.mem_cons_of_mem _ m
    exact ⟨ρ', p, s.sub sub, b.less sub (fun _ m => m), l.step p (s.sub sub) z⟩
theorem ps_exE (hc : isComp e = false) (he : EE G X Wx e va) : PS X (.Expr e pos) (tS G Wx fun τ o => bndS (va τ o) τ fun _ o1 => .next τ o1) :=
  PS.weak (ps_expr he.pe (swaps_no hc)) fun D σ H ⟨ρ, τ, o, b, l, q⟩ => ⟨ρ, τ, o, b, l, (SP.bnd (f := fun _ o1 => .next τ o1) q l b.zm).mono fun val o' q v H' hp => q σ H' (hp.n l b.zm)⟩
theorem ps_passE : PS X (.Pass pos) (tS G Wx fun τ o => .next τ o) := PS.weak ps_pass fun D σ H ⟨ρ, τ, o, b, l, q⟩ => q σ H (post_n b l)
theorem ps_brkE : PS X (.Break pos) (tS G Wx fun τ o => .brk τ o) := PS.weak ps_break fun D σ H ⟨ρ, τ, o, b, l, q⟩ => q σ H (post_n b l)
theorem ps_contE : PS X (.Continue pos) (tS G Wx fun τ o => .cont τ o) := PS.weak ps_continue fun D σ H ⟨ρ, τ, o, b, l, q⟩ => q σ H (post_n b l)
variable {ra rb rc : Sg → List Ob → SR}
theorem ps_ifE {bs cs : List Stmt} (hi : isIfExp c = false) (hc : EE G X Wx c vc) (ha : PSs X bs (tS G Wx ra)) (hb : PSs X cs (tS G Wx rb)) :
    PS X (.If c bs cs pos) (tS G Wx fun τ o => bndS (asT (vc τ o)) τ fun k o1 => if k then ra τ o1 else rb τ o1) :=
  PS.weak (ps_if (hc.pt hi) ha hb) fun D σ H ⟨ρ, τ, o, b, l, q⟩ => ⟨ρ, τ, o, b, l, (SP.bnd (f := fun k o1 => if k then ra τ o1 else rb τ o1) q l b.zm).mono fun k o1 q H' hp => by
    obtain ⟨ρ1, p, s, b1⟩ := hp
    cases k with
    | true => exact ⟨ρ1, τ, o1, b1, l.step p s b.zm, SP.lift q p s⟩
    | false => exact ⟨ρ1, τ, o1, b1, l.step p s b.zm, SP.lift q p s⟩⟩
/-- an if whose test is an if-expression: none here -/
theorem pss_nilE : PSs X [] (tS G Wx fun τ o => .next τ o) := PSs.weak pss_nil fun D σ H ⟨ρ, τ, o, b, l, q⟩ => q σ H (post_n b l)
theorem pss_consE {st : Stmt} {rest : List Stmt} (h1 : PS X st (tS G Wx ra)) (h2 : PSs X rest (tS G Wx rb)) :
    PSs X (st :: rest) (tS G Wx fun τ o => match ra τ o with | .next τ1 o1 => rb τ1 o1 | x => x) :=
  PSs.weak (pss_cons h1 h2) fun D σ H ⟨ρ, τ, o, b, l, q⟩ => by
    refine ⟨ρ, τ, o, b, l, ?_⟩
    cases z : ra τ o with
    | next τ1 o1 =>
      simp only [z] at q
      exact fun σ' H' hp => by
        obtain ⟨ρ1, p, s, b1, l1⟩ := hp
        exact ⟨ρ1, τ1, o1, b1, l1, SP.lift q p s⟩
    | _ => simp only [z] at q; exact q
theorem sole_no {e t : Expr} {n : Nat} {env : Env} (h : isComp e = false) : swapsWithSole [t] e n env = pure false := by
  unfold swapsWithSole
  exact swaps_no h
/-! ### stores -/
def rSetW (G : Gx) : V → V → V → Hp → (Hp → Prop) → Prop := fun ov iv v H Q => ∃ ρ o x k w o', Obs G ρ ρ H o ∧ RW G ρ ρ H x ov ∧ RD G ρ H k iv ∧ RW G ρ ρ H w v ∧ setiW o x k w = some o' ∧ ∀ H', Post0 G ρ H o' H' → Q H'
theorem set_W : PSet X (rSetW G) := by
  intro pins s σ H ov iv v ou iu u Q I ro ri rv h
  obtain ⟨ρ, o, x, k, w, o', b, rx, rk, rw', e, q⟩ := h
  unfold setiW at e
  split at e
  · rename_i n i
    obtain ⟨ad, ea, rfl⟩ := rx
    cases rk
    cases z : o[n]? with
    | none => simp [z] at e
    | some ob =>
      have rb := b.ob n ob ad z ea
      cases ob with
      | lst ls =>
        simp only [z] at e
        split at e
        · rename_i w' j hw hj
          cases e
          obtain ⟨vs, ha, rvs, hl⟩ := rb
          obtain ⟨rw2, lk⟩ := putIn_ok hw rw'
          refine set_list pins s σ H _ _ v ou iu u Q I ro ri rv ⟨ad, vs, i, j, rfl, rfl, ha, by rw [← ixN_eq, ← rvs.length]; exact hj, q _ ?_⟩
          refine ⟨ρ, List.prefix_rfl, stp_upd (mem_of_get ea) ⟨_, ha⟩, b.upd ea trivial ⟨_, ha⟩ (rob_lst b ea ⟨_, ha⟩ (rws_set rw2 j rvs) fun y m => ?_)⟩
          rcases List.mem_or_eq_of_mem_set m with m | m
          · exact hl y m
          · rw [m]; exact lk
        · cases e
      | _ => first | exact rb.elim | (simp [z] at e)
  · cases e
theorem subAssign {o i : Expr} {tp : Pos} {env : Env} (h : isSlice i = false) : ∀ v, assign (.Subscript o i tp) env v = (do
      let ov ← holding [v] (eval o env)
      let iv ← holding [v, ov] (eval i env)
      standAt tp
      holding [v, ov, iv] (setItem ov iv v)
      release [v, ov, iv] []) := by
  intro v
  cases i <;> first | rfl | (simp [isSlice] at h)
theorem SP_oS {f : Option (List Ob)} (h : SP G Wx ρ H D (oS τ f)) : ∃ o', f = some o' ∧ SP G Wx ρ H D (.next τ o') := by
  cases f with
  | none => exact False.elim h
  | some o' => exact ⟨o', rfl, h⟩
theorem ps_setiE {oe ie : Expr} {tp : Pos} (hs : isSlice ie = false) (hc : isComp e = false) (ho : EE G X Wx oe va) (hi : EE G X Wx ie vb) (he : EE G X Wx e vc) :
    PS X (.Assign [.Subscript oe ie tp] e pos) (tS G Wx fun τ o => bndS (asW (vc τ o)) τ fun w o1 => bndS (asW (va τ o1)) τ fun x o2 => bndS (asW (vb τ o2)) τ fun y o3 => match y with
    | .d k => oS τ (setiW o3 x k w)
    | .loc _ => .bad) :=
  PS.weak (ps_asg he.w (pg_sub ho.w hi.w (set_W (G := G)) (subAssign hs)) (sole_no hc) (by rfl) (by rfl)) fun D σ H q =>
    (tS_WWW (f := fun τ w x y o3 => match y with
    | .d k => oS τ (setiW o3 x k w)
    | .loc _ => .bad) q).mono fun v H1 h1 => h1.mono fun u H2 h2 => h2.mono fun t H3 ⟨ρ, o, τ, w, x, y, at_, rw', rx, ry, q⟩ => by
      cases y with
      | loc _ => exact False.elim q
      | d k =>
        obtain ⟨o', eo, q⟩ := SP_oS q
        refine ⟨ρ, o, x, k, w, o', at_.ob, rx, ry, rw', eo, fun H' hp => q _ _ ?_⟩
        obtain ⟨ρ1, p, s, b1⟩ := hp
        exact ⟨ρ1, p, s, b1, at_.sl.step p s at_.ob.zm⟩
end
end Mi
end
section
set_option linter.all false
set_option Elab.async false
set_option maxHeartbeats 2000000
set_option autoImplicit false
namespace Mi
open PySem L2
section
variable {G : Gx} {X : L2.Cx} {Wx : WX} {pos : Pos} {a b c e : Expr} {es : List Expr} {r : Sg → List Ob → R (List W)} {va vb vc : Sg → List Ob → R Val} {cx : Cx}
variable {ρ ρ1 zs : List Addr} {H H1 H2 : Hp} {o o1 : List Ob} {D : Ends} {σ : L2.St} {τ : Sg}
/-! ### targets -/
theorem no_er (h : G.er = none) (i : Nat) : ∀ e, G.er = some e → e.slot ≠ i := fun e he => by rw [h] at he; cases he
def RIt (G : Gx) (ρ : List Addr) (H : Hp) : Item → V → Prop
  | .one w, v => RW G ρ ρ H w v
  | .many ws, v => ∃ a vs, v = .ref a ∧ SqT G.K H a vs ∧ RWs G ρ ρ H ws vs
/-- but for ns the slots are kept -/
def Kp (ns : List Nat) (σ σ' : L2.St) : Prop := σ'.length = σ.length ∧ ∀ i, i ∉ ns → σ'[i]? = σ[i]?
mutual
def tSlots : T → List Nat
  | .n i => [i]
  | .tup r => tsSlots r
def tsSlots : Ts → List Nat
  | .nil => []
  | .cons t r => tSlots t ++ tsSlots r
end
theorem Kp.trans {ns ms : List Nat} {σ1 σ2 σ3 : L2.St} (a : Kp ns σ1 σ2) (b : Kp ms σ2 σ3) : Kp (ns ++ ms) σ1 σ3 := ⟨b.1.trans a.1, fun i h => by
  simp only [List.mem_append, not_or] at h
  exact (b.2 i h.2).trans (a.2 i h.1)⟩
theorem Kp.refl {σ : L2.St} : Kp [] σ σ := ⟨rfl, fun _ _ => rfl⟩
theorem Kp.set {i : Nat} {v : Option V} : Kp [i] σ (σ.set i v) := ⟨by simp, fun j h => List.getElem?_set_ne fun e => h (by simp [e])⟩
def gT (G : Gx) (t : T) : TG := fun v σ H Q => ∃ ρ τ it τ', Zm ρ H ∧ Sl G ρ ρ H τ σ ∧ RIt G ρ H it v ∧ bindT t it τ = some τ' ∧ ∀ σ', Sl G ρ ρ H τ' σ' → Kp (tSlots t) σ σ' → Q σ' H
def gTs (G : Gx) (t : Ts) : TGs := fun vs σ H Q => ∃ ρ τ ws τ', Zm ρ H ∧ Sl G ρ ρ H τ σ ∧ RWs G ρ ρ H ws vs ∧ bindTs t ws τ = some τ' ∧ ∀ σ', Sl G ρ ρ H τ' σ' → Kp (tsSlots t) σ σ' → Q σ' H
theorem PG.weak {t t' : TG} (h : PG X e t) (w : ∀ v σ H Q, t' v σ H Q → t v σ H Q) : PG X e t' := ⟨fun pins s σ H v u Q I r q => h.run pins s σ H v u Q I r (w v σ H Q q)⟩
theorem PGs.weak {t t' : TGs} (h : PGs X es t) (w : ∀ v σ H Q, t' v σ H Q → t v σ H Q) : PGs X es t' := ⟨fun pins s σ H v u Q I r q => h.run pins s σ H v u Q I r (w v σ H Q q)⟩
theorem pg_n {i : Nat} {x : Str} (h0 : G.er = none) (hN : X.N.Nodup) (hi : X.N[i]? = some x) (hx : Loc X.env.scope x) (hf : X.fn x = true ∨ X.env.scope.names.lookup x = some .local) : PG X (.Name x pos) (gT G (.n i)) :=
  PG.weak (pg_name hN hi hx hf) fun v σ H Q ⟨ρ, τ, it, τ', z, l, ri, e, q⟩ => by
    cases it with
    | one w => simp only [bindT, Option.some.injEq] at e; subst e; exact q _ (l.set i (no_er h0 i) ri) (by simpa [tSlots] using Kp.set)
    | many ws => simp [bindT] at e
theorem pgs_n : PGs X [] (gTs G .nil) := PGs.weak pgs_nil fun v σ H Q ⟨ρ, τ, ws, τ', z, l, r, e, q⟩ => by
  cases ws with
  | nil => cases r; simp only [bindTs, Option.some.injEq] at e; subst e; exact ⟨rfl, q σ l (by simpa [tsSlots] using Kp.refl)⟩
  | cons w ws => simp [bindTs] at e
theorem assignEach_cons {env : Env} (h : isStar e = false) : assignEach (e :: es) env = (false, assign e env) :: assignEach es env := by
  cases e <;> first | rfl | (simp [isStar] at h)
theorem pgs_c {t : T} {u : Ts} (hs : isStar e = false) (h1 : PG X e (gT G t)) (h2 : PGs X es (gTs G u)) : PGs X (e :: es) (gTs G (.cons t u)) :=
  PGs.weak (pgs_cons h1 h2 (by rw [assignEach_cons hs]; rfl)) fun vs σ H Q ⟨ρ, τ, ws, τ', z, l, r, e, q⟩ => by
    cases r with
    | nil => simp [bindTs] at e
    | @cons w v ws vs rw' rws =>
      simp only [bindTs] at e
      cases y : bindT t (.one w) τ with
      | none => simp [y] at e
      | some τ1 =>
        simp only [y] at e
        exact ⟨v, vs, rfl, ρ, τ, .one w, τ1, z, l, rw', y, fun σ' l' k' => ⟨ρ, τ1, ws, τ', z, l', rws, e, fun σ2 l2 k2 => q σ2 l2 (by simpa [tsSlots] using k'.trans k2)⟩⟩
def tsLen : Ts → Nat
  | .nil => 0
  | .cons _ r => tsLen r + 1
theorem bindTs_len : ∀ {t : Ts} {ws : List W} {τ τ' : Sg}, bindTs t ws τ = some τ' → ws.length = tsLen t
  | .nil, [], _, _, _ => rfl
  | .nil, _ :: _, _, _, e => by simp [bindTs] at e
  | .cons _ _, [], _, _, e => by simp [bindTs] at e
  | .cons t r, w :: ws, τ, τ', e => by
    simp only [bindTs] at e
    cases y : bindT t (.one w) τ with
    | none => simp [y] at e
    | some τ1 => simp only [y] at e; simp [tsLen, bindTs_len e]
theorem each_len {env : Env} : ∀ {es : List Expr}, es.all (fun e => !isStar e) = true → (assignEach es env).length = es.length ∧ (assignEach es env).findIdx? (·.1) = none
  | [], _ => ⟨rfl, rfl⟩
  | e :: es, h => by
    simp only [List.all_cons, Bool.and_eq_true, Bool.not_eq_true'] at h
    obtain ⟨h1, h2⟩ := each_len (env := env) h.2
    rw [assignEach_cons h.1]
    refine ⟨by simp [h1], ?_⟩
    rw [List.findIdx?_cons]
    simp [h2]
theorem pg_t {k : Nat} {ts : Ts} (hK : X.K = G.K) (hc : X.calm = true) (hs : es.all (fun e => !isStar e) = true) (hl : tsLen ts = es.length) (h : PGs X es (gTs G ts)) : PG X (.Tuple es k pos) (gT G (.tup ts)) :=
  PG.weak (pg_tup hc h (each_len hs).1 (each_len hs).2) fun v σ H Q ⟨ρ, τ, it, τ', z, l, ri, e, q⟩ => by
    have go : ∀ {ws : List W} {a : Addr} {vs : List V}, v = .ref a → SqT G.K H a vs → RWs G ρ ρ H ws vs → bindTs ts ws τ = some τ' → gTup X.K es.length (gTs G ts) v σ H Q := fun {ws a vs} ev hq rws e =>
      ⟨a, vs, ev, by rw [hK]; exact hq, by rw [← rws.length, bindTs_len e, hl], ρ, τ, ws, τ', z, l, rws, e, fun σ' l' k' => q σ' l' (by simpa [tSlots] using k')⟩
    cases it with
    | many ws =>
      obtain ⟨a, vs, ev, hq, rws⟩ := ri
      exact go ev hq rws (by simpa [bindT] using e)
    | one w =>
      cases w with
      | loc n => simp [bindT] at e
      | d d =>
        cases d with
        | tup xs =>
          cases ri with
          | tup ha da ra => exact go rfl (sqT_frz ha) (rws_of ra) (by simpa [bindT] using e)
        | _ => simp [bindT] at e
def isTupE : Expr → Bool
  | .Tuple _ _ _ => true
  | _ => false
theorem stores_no {t e : Expr} {env : Env} (h : isTupE e = false ∨ ((isTupE t = false) ∧ ∀ l p, t ≠ .List l p)) : swappedStores [t] e env = pure none := by
  unfold swappedStores
  rcases h with h | ⟨h, h2⟩
  · cases e <;> first | (simp [isTupE] at h; done) | (cases t <;> rfl)
  · cases t <;> first | (simp [isTupE] at h; done) | (exact absurd rfl (h2 _ _)) | rfl
/-- targets = a value -/
theorem ps_unpE {t : T} {tg : Expr} (hg : PG X tg (gT G t)) (hc : isComp e = false) (ht : isTupE e = false) (hst : isStar tg = false) (he : EE G X Wx e va) :
    PS X (.Assign [tg] e pos) (tS G Wx fun τ o => bndS (asW (va τ o)) τ fun w o1 => bindR t (.one w) τ o1) :=
  PS.weak (ps_asg he.w hg (sole_no hc) (stores_no (.inl ht)) (by rw [assignEach_cons hst]; rfl)) fun D σ H q =>
    (tS_W (f := fun τ w o1 => bindR t (.one w) τ o1) q).mono fun v H1 ⟨ρ, o, τ, w, at_, rw', q⟩ => by
      have q : Mi.SP G Wx ρ H1 D (bindR t (.one w) τ o) := q
      unfold bindR at q
      cases y : bindT t (.one w) τ with
      | none => rw [y] at q; exact False.elim q
      | some τ1 => rw [y] at q; exact ⟨ρ, τ, .one w, τ1, at_.ob.zm, at_.sl, rw', y, fun σ' l' _ => q _ _ (post_n at_.ob l')⟩
/-! ### a, b = x, y -/
def parR (t : Ts) (r : Sg → List Ob → R (List W)) : Sg → List Ob → SR := fun τ o => bndS (r τ o) τ fun ws o1 => match bindTs t ws τ with
    | some σ1 => .next σ1 o1
    | none => .bad
theorem par_A {t : Ts} (h : tS G Wx (parR t r) D σ H) : tA G Wx r σ H fun vs H1 => ∃ ρ o τ ws τ', AtS G σ ρ H1 o τ ∧ RWs G ρ ρ H1 ws vs ∧ bindTs t ws τ = some τ' ∧ ∀ σ' H', PostN G ρ H1 τ' o σ' H' → D.nx σ' H' :=
  (tS_A (f := fun τ ws o1 => match bindTs t ws τ with
    | some σ1 => .next σ1 o1
    | none => .bad) h).mono fun vs H1 ⟨ρ, o, τ, ws, at_, rws, q⟩ => by
      cases y : bindTs t ws τ with
      | none => simp only [y] at q; exact False.elim q
      | some τ1 => simp only [y] at q; exact ⟨ρ, o, τ, ws, τ1, at_, rws, y, q⟩
/-- two names, stored from the right -/
theorem ps_parE (h0 : G.er = none) {i j : Nat} {x y : Str} {px py pt : Pos} {kt k2 pt2} (hc : X.calm = true) (hN : X.N.Nodup) (hi : X.N[i]? = some x) (hj : X.N[j]? = some y) (hij : i ≠ j)
    (hx : X.env.scope.names.lookup x = some .local) (hy : X.env.scope.names.lookup y = some .local) (ha : PA X [a, b] (tA G Wx r))
    (hw : swappedStores [.Tuple [.Name x px, .Name y py] kt pt] (.Tuple [a, b] k2 pt2) X.env = pure (some [x, y])) :
    PS X (.Assign [.Tuple [.Name x px, .Name y py] kt pt] (.Tuple [a, b] k2 pt2) pos) (tS G Wx (parR (.cons (.n i) (.cons (.n j) .nil)) r)) :=
  PS.weak (ps_par hc hN hi hj hij hx hy ha hw (sole_no rfl)) fun D σ H q => (par_A q).mono fun vs H1 ⟨ρ, o, τ, ws, τ', at_, rws, e, q⟩ => by
    cases rws with
    | nil => simp [bindTs] at e
    | cons r1 rws => cases rws with
      | nil => simp [bindTs, bindT] at e
      | cons r2 rws => cases rws with
        | cons _ _ => simp [bindTs, bindT] at e
        | nil =>
          simp only [bindTs, bindT, Option.some.injEq] at e
          subst e
          exact ⟨_, _, rfl, q _ _ (post_n at_.ob ((at_.sl.set i (no_er h0 i) r1).set j (no_er h0 j) r2))⟩
theorem ps_par3E (h0 : G.er = none) {i j l : Nat} {x y z : Str} {px py pz pt : Pos} {kt k2 pt2} (hc : X.calm = true) (hN : X.N.Nodup) (hi : X.N[i]? = some x) (hj : X.N[j]? = some y) (hl : X.N[l]? = some z) (hij : i ≠ j) (hil : i ≠ l) (hjl : j ≠ l)
    (hx : X.env.scope.names.lookup x = some .local) (hy : X.env.scope.names.lookup y = some .local) (hz : X.env.scope.names.lookup z = some .local) (ha : PA X [a, b, c] (tA G Wx r))
    (hw : swappedStores [.Tuple [.Name x px, .Name y py, .Name z pz] kt pt] (.Tuple [a, b, c] k2 pt2) X.env = pure (some [x, y, z])) :
    PS X (.Assign [.Tuple [.Name x px, .Name y py, .Name z pz] kt pt] (.Tuple [a, b, c] k2 pt2) pos) (tS G Wx (parR (.cons (.n i) (.cons (.n j) (.cons (.n l) .nil))) r)) :=
  PS.weak (ps_par3 hc hN hi hj hl hij hil hjl hx hy hz ha hw (sole_no rfl)) fun D σ H q => (par_A q).mono fun vs H1 ⟨ρ, o, τ, ws, τ', at_, rws, e, q⟩ => by
    cases rws with
    | nil => simp [bindTs] at e
    | cons r1 rws => cases rws with
      | nil => simp [bindTs, bindT] at e
      | cons r2 rws => cases rws with
        | nil => simp [bindTs, bindT] at e
        | cons r3 rws => cases rws with
          | cons _ _ => simp [bindTs, bindT] at e
          | nil =>
            simp only [bindTs, bindT, Option.some.injEq] at e
            subst e
            exact ⟨_, _, _, rfl, q _ _ (post_n at_.ob (((at_.sl.set i (no_er h0 i) r1).set j (no_er h0 j) r2).set l (no_er h0 l) r3))⟩
/-- by way of the tuple -/
theorem ps_parTE {ts : List Expr} {t : Ts} {kt k2 : Nat} {pt pt2 : Pos} (hK : X.K = G.K) (hc : X.calm = true) (hs : ts.all (fun e => !isStar e) = true) (hl : tsLen t = ts.length) (h : PGs X ts (gTs G t)) (ha : PA X es (tA G Wx r)) (hsz : tsLen t ≤ line)
    (hw : swappedStores [.Tuple ts kt pt] (.Tuple es k2 pt2) X.env = pure none) :
    PS X (.Assign [.Tuple ts kt pt] (.Tuple es k2 pt2) pos) (tS G Wx (parR t r)) :=
  PS.weak (ps_asg (pe_tupF ha) (pg_t hK hc hs hl h) (sole_no rfl) hw (by rfl)) fun D σ H q => (par_A q).mono fun vs H1 ⟨ρ, o, τ, ws, τ', at_, rws, e, q⟩ => by
    refine ⟨by rw [← rws.length, bindTs_len e]; exact hsz, fun p ob hp hd => ?_⟩
    have s : Stp ρ H1 ρ (upd H1 p (.frz ob (.tup vs))) := Stp.new hp
    refine ⟨ρ, τ, .many ws, τ', (at_.ob.grow s (keepN hp)).zm, at_.sl.step List.prefix_rfl s at_.ob.zm, ⟨p, vs, rfl, sqT_frz upd_same, rws.step List.prefix_rfl s at_.ob.zm⟩, by simpa [bindT] using e, fun σ' l' _ => q σ' _ ⟨ρ, List.prefix_rfl, s, at_.ob.grow s (keepN hp), l'⟩⟩
/-! ### self.f = e -/
theorem putF_ok {f : Nat} {n : Str} {w : W} {v : V} (hn : G.names.Nodup) (hf : G.names[f]? = some n) (r : RW G ρ zs H w v) : ∀ {fs : List (Nat × W)} {fv : List (Str × V)}, RWf G ρ zs H fs fv → RWf G ρ zs H (putN f w fs) (putF n v fv)
  | _, _, .nil => .cons ⟨hf, r⟩ .nil
  | (g, w0) :: fs, (m, v0) :: fv, .cons h t => by
    unfold putN putF
    by_cases e : g = f
    · subst e
      have em : m = n := by
        have := h.1
        rw [hf] at this
        exact (Option.some.inj this).symm
      simp only [em, if_true]
      exact .cons ⟨hf, r⟩ t
    · have em : m ≠ n := fun z => e (names_inj hn h.1 (by rw [z]; exact hf))
      simp only [e, em, if_false]
      exact .cons h (putF_ok hn hf r t)
theorem putN_mem {f : Nat} {w : W} : ∀ {fs : List (Nat × W)} {p : Nat × W}, p ∈ putN f w fs → p ∈ fs ∨ p.2 = w
  | [], p, h => by simp [putN] at h; subst h; exact .inr rfl
  | (g, w0) :: fs, p, h => by
    unfold putN at h
    split at h
    · rcases List.mem_cons.mp h with e | m
      · subst e; exact .inr rfl
      · exact .inl (List.mem_cons_of_mem _ m)
    · rcases List.mem_cons.mp h with e | m
      · subst e; exact .inl (by simp)
      · rcases putN_mem m with q | q
        · exact .inl (List.mem_cons_of_mem _ q)
        · exact .inr q
theorem ps_setaE {oe : Expr} {f : Nat} {n : Str} {tp : Pos} (hK : X.K = G.K) (C : ClsOk G) (hf : G.names[f]? = some n) (hc : isComp e = false) (ho : EE G X Wx oe va) (he : EE G X Wx e vc) :
    PS X (.Assign [.Attribute oe n tp] e pos) (tS G Wx fun τ o => bndS (asW (vc τ o)) τ fun w o1 => bndS (asW (va τ o1)) τ fun x o2 => oS τ (setaW o2 x f w)) :=
  PS.weak (ps_fld ho.w he.w (swaps_no hc)) fun D σ H q => (tS_WW (f := fun τ w x o2 => oS τ (setaW o2 x f w)) q).mono fun y H1 h1 => h1.mono fun x H2 ⟨ρ, o, τ, w, wx, at_, rw', rx, q⟩ => by
    obtain ⟨o', eo, q⟩ := SP_oS q
    unfold setaW at eo
    cases wx with
    | d _ => cases eo
    | loc m =>
      obtain ⟨ad, ea, rfl⟩ := rx
      simp only at eo
      cases z : o[m]? with
      | none => simp [z] at eo
      | some ob =>
        have rb := at_.ob.ob m ob ad z ea
        cases ob with
        | ins k fs =>
          simp only [z] at eo
          split at eo
          · rename_i w' hw
            split at eo
            · rename_i hlt
              cases eo
              obtain ⟨CA, dx, fv, ha, hcl, rfs, hl⟩ := rb
              obtain ⟨rw2, lk⟩ := putIn_ok hw rw'
              have hlen : fs.length = fv.length := Paired.length rfs
              refine ⟨ad, CA, dx, fv, rfl, ha, by rw [hK]; exact C.cls k CA hcl.1 hcl.2, by rw [hK]; exact C.noat k CA hcl.1 hcl.2 f n hf, by omega, q _ _ ?_⟩
              have s : Stp ρ H2 ρ (L2.upd H2 ad (.ins CA dx (putF n y fv))) := stp_upd (mem_of_get ea) ⟨_, ha⟩
              refine ⟨ρ, List.prefix_rfl, s, at_.ob.upd ea trivial ⟨_, ha⟩ ⟨CA, dx, _, upd_same, hcl, (putF_ok C.nd hf rw2 rfs).step List.prefix_rfl s at_.ob.zm, fun p hp => ?_⟩, at_.sl.step List.prefix_rfl s at_.ob.zm⟩
              rcases putN_mem hp with m | m
              · exact hl p m
              · rw [m]; exact lk
            · cases eo
          · cases eo
        | _ => first | exact rb.elim | (simp [z] at eo)
end
end Mi
end
section
set_option linter.all false
set_option Elab.async false
set_option maxHeartbeats 2000000
set_option autoImplicit false
namespace PySem
open AutoSeq1 (wpAny_loadPart')
set_option maxHeartbeats 1000000 in
theorem meets_enumerate_newT (l : Addr) (o : Obj) (items : Array Value) (n : Nat) (hc : o.cls = .type "tuple") (hd : o.data = .seq items n) :
    Meets (Builtin.«enumerate.__new__» ⟨[.type "enumerate", .ref l], []⟩) (fun _ R s => s.heap.get? l = some o ∧
      R (.ok (.ret (.ref (s.heap.push { cls := .type "tuple_iterator", data := .fields #[.ref l, .int 0 0] }).objs.size)))
        { s with heap := (s.heap.push { cls := .type "tuple_iterator", data := .fields #[.ref l, .int 0 0] }).push { cls := .type "enumerate", data := .fields #[.none, .bool false, .ref s.heap.objs.size, rawInt 0, .none, .none] } }) :=
  .of_wp fun prog w A R s h => by
    obtain ⟨hp, g, d, tk, os⟩ := s
    obtain ⟨hl, h⟩ := h
    have hL : hp.IsTuple l items := ⟨_, hl, hc, n, hd⟩
    have hsub := sub_enumerate
    wp_walk using wpAny_loadPart' hl, wpAny_pyIter_tuple hL
    refine wpAny_stack_any fun st => wpAny_pure ?_
    split
    · rename_i c _ _ _ _ _
      cases (c == Value.type "enumerate")
      · wp_walk using wpAny_loadPart' hl, wpAny_pyIter_tuple hL
        exact ⟨_, rfl, h⟩
      · wp_walk using wpAny_loadPart' hl, wpAny_pyIter_tuple hL
        exact ⟨_, rfl, h⟩
    · wp_walk using wpAny_loadPart' hl, wpAny_pyIter_tuple hL
      exact ⟨_, rfl, h⟩
section
variable {prog : Program} {w : World} {A : Around} {E : Value → Shared → Prop} {s : Shared}
theorem call_enumerate_tup {l : Addr} {items : Array Value} {Q : Value → Shared → Prop} (hL : s.heap.IsTuple l items)
    (h : ∀ h', IsEnum h' (s.heap.objs.size + 1) s.heap.objs.size 0 .none → h'.IsTupleIter s.heap.objs.size l 0 → h'.objs.size = s.heap.objs.size + 2 →
      (∀ b o, s.heap.get? b = some o → h'.get? b = some o) → Q (.ref (s.heap.objs.size + 1)) { s with heap := h' }) :
    wpAny (model prog w) A (call (.type "enumerate") [.ref l]) Q E s := by
  obtain ⟨o, hl, hc, n, hd⟩ := hL
  refine callType_new F.called_enumerate (by decide) (F.typeCall_enumerate_1 _) (F.newCall_enumerate_1 _) (fun obj => F.args_object_init_2 obj _) F.entry_enumerate_new
    (meets_enumerate_newT l o items n hc hd) ⟨hl, ?_⟩
  have hz : (s.heap.push { cls := .type "tuple_iterator", data := .fields #[.ref l, .int 0 0] }).objs.size = s.heap.objs.size + 1 := Heap.size_push ..
  show _ ∧ _
  rw [hz]
  have he : IsEnum ((s.heap.push { cls := .type "tuple_iterator", data := .fields #[.ref l, .int 0 0] }).push
      { cls := .type "enumerate", data := .fields #[.none, .bool false, .ref s.heap.objs.size, rawInt 0, .none, .none] }) (s.heap.objs.size + 1) s.heap.objs.size 0 .none := by
    have := Heap.get?_push_size (s.heap.push { cls := .type "tuple_iterator", data := .fields #[.ref l, .int 0 0] })
      (o := { cls := .type "enumerate", data := .fields #[.none, .bool false, .ref s.heap.objs.size, rawInt 0, .none, .none] }) rfl
    rw [hz] at this; exact this
  refine ⟨⟨_, he, rfl⟩, h _ he ⟨_, Heap.get?_push_of_some _ (Heap.get?_push_size _ rfl), rfl, rfl⟩ (by rw [Heap.size_push, hz]) fun b o x => Heap.get?_push_of_some _ (Heap.get?_push_of_some _ x)⟩
theorem wpAny_pyNext_enumT_end {e it l : Addr} {i : Nat} {items : Array Value} {old : Value} {Q : Option Value → Shared → Prop} (hh : A.handled = none)
    (he : IsEnum s.heap e it i old) (hit : s.heap.IsTupleIter it l i) (hl : s.heap.IsTuple l items) (hx : items[i]? = none)
    (hQ : ∀ h', Heap.ExtBut it s.heap h' → Q none { s with heap := h' }) : wpAny (model prog w) A (pyNext (.ref e)) Q E s := by
  have hT : s.TypeIs (.ref e) "enumerate" := ⟨_, he, rfl⟩
  unfold pyNext
  refine wpAny_bind (wpAny_attempt (wpAny_callSpecial?_slot (name := Str.ofString "__next__") hT F.slot_enumerate_next
    (wpAny_call_entry F.slot_enumerate_next hT F.entry_enumerate_next ?_ (F.args_enumerate_next_1 _))))
  show wpAny _ _ (field (.ref e) 2 >>= _) _ _ _
  refine wpAny_bind (wpAny_field he rfl (x := .ref it) rfl ?_)
  refine wpAny_bind (wpAny_nextOf_tuple_end hh hit hl hx fun h' x he' hx' => ?_)
  obtain ⟨o, ho, hc⟩ := hx'
  refine wpAny_bind (wpAny_isInstance (T := "StopIteration") (b := true) ⟨o, ho, hc⟩ isSubtype_stop ?_)
  exact wpAny_pure (hQ _ he')
end
end PySem
namespace L2
open PySem PySem.Spec PyProof.Rows
def IteT (K : PySem.W.Frag) (a : Addr) : It :=
  ⟨fun i H => ∃ (xs : List V) (x : V), SqT K H a xs ∧ xs[i]? = some x, fun i H v H' => ∃ T x, v = .ref T ∧ H T = none ∧ H' = upd H T (.tup [.int (i : Nat), x]) ∧ ∀ xs, SqT K H a xs → xs[i]? = some x, fun i H => ∃ xs : List V, SqT K H a xs ∧ xs.length ≤ i⟩
theorem turn_enumT {P : Program} {w : World} {K : PySem.W.Frag} {elts : List Expr} {kk : Nat} {tpos : Pos} (a e it : Addr) (hea : e ≠ a) (hia : it ≠ a) :
    Turn P w K (.Tuple elts kk tpos) (IteT K a) [e, it] e (fun i h => (∃ old, IsEnum h e it ((i : Nat) : Int) old) ∧ h.IsTupleIter it a i ∧ e ≠ it) where
  mem := by simp
  obj := fun i h st b hb => by
    obtain ⟨⟨old, he⟩, ⟨o, ho, hc, hd⟩, _⟩ := st
    have e' : b = e ∨ b = it := by simpa using hb
    rcases e' with z | z
    · rw [z]; exact ⟨_, he, fun v q => nomatch q⟩
    · rw [z]; exact ⟨o, ho, fun v q => by rw [hd] at q; cases q⟩
  keep := fun i h h' st k => let ⟨⟨old, he⟩, hi, hne⟩ := st; ⟨⟨old, k e (by simp) _ he⟩, hi.at fun o q => k it (by simp) o q, hne⟩
  item := by
    intro X hP hw hK hc i pins s σ H E I hf st hg
    subst hP hw hK
    obtain ⟨⟨old, he⟩, hit, hne⟩ := st
    obtain ⟨xs, x, hq, hx⟩ := hg
    obtain ⟨its, rv, p, hz⟩ := I.tuple hq
    obtain ⟨u, hu, ru⟩ := rv.get hx
    have hel : e < s.heap.objs.size := Heap.lt_size he
    have hil : it < s.heap.objs.size := by obtain ⟨_, q, _⟩ := hit; exact Heap.lt_size q
    have D := Draws.tuple (prog := X.prog) (w := X.w) (A := X.A.in1) (I.ok.hd hc) it a (Ne.symm hia) its.toArray
    refine wpAny_pyNext_enum_itemD D he ⟨hit, p⟩ (by have := (List.getElem?_eq_some_iff.mp hu).1; simpa using this) hne (by simp; exact ⟨hne, hea⟩) fun x' h' tk hx' ho hit' hT hsz hk => ?_
    have ex : x' = u := by
      have q : its.toArray[i]? = some x' := hx'
      have q2 : its[i]? = some x' := by simpa using q
      rw [hu] at q2
      exact (Option.some.inj q2).symm
    subst ex
    refine ⟨_, rfl, wpAny_letOwnedTupleGo_enum (s := { s with heap := h', toks := tk + 1 }) ho fun h'' he' sb => ?_⟩
    have hT2 : h''.get? s.heap.objs.size = some { cls := .type "tuple", data := .seq #[.int i tk, x'] } := (sb.2 _ (Nat.ne_of_gt hel)).trans hT
    have new : ObjOk X.prog X.w (upd H s.heap.objs.size (.tup [.int (i : Nat), x])) h'' s.heap.objs.size (.tup [.int (i : Nat), x]) :=
      ⟨by show 2 ≤ sizeLine; decide, [.int i tk, x'], .cons ⟨_, rfl⟩ (.cons ru .nil), ⟨_, hT2, rfl, _, rfl⟩⟩
    have I1 : Inv X pins σ (upd H s.heap.objs.size (.tup [.int (i : Nat), x])) { s with heap := h'', toks := tk + 1 } :=
      I.turnedNew (ch := [e, it]) (fun b ob hb q => (sb.2 b (fun z => hb (by simp [z]))).trans (hk b ob (fun z => hb (by simp [z])) (fun z => hb (by simp [z])) q)) hf (Nat.le_refl _) new
    refine ⟨.ref s.heap.objs.size, _, I1, rfl, ⟨_, x, rfl, I.hok.fresh (Nat.le_refl _), rfl, fun ys hy => by rw [I.tuple_inj hy hq]; exact hx⟩, ⟨⟨x', ?_⟩, hit'.1.at fun o q => (sb.2 it (Ne.symm hne)).trans q, hne⟩, fun b hb => ?_⟩
    · have e1 : ((i + 1 : Nat) : Int) = (i : Int) + 1 := by omega
      rw [e1]; exact he'
    · have hb' : b < s.heap.objs.size := by
        have e' : b = e ∨ b = it := by simpa using hb
        rcases e' with z | z
        · rw [z]; exact hel
        · rw [z]; exact hil
      rw [upd_ne (Nat.ne_of_lt hb')]
      exact (hf b hb).1
  done := by
    intro X hP hw hK hc i pins s σ H E I hf st hg
    subst hP hw hK
    obtain ⟨⟨old, he⟩, hit, hne⟩ := st
    obtain ⟨xs, hq, hx⟩ := hg
    obtain ⟨its, rv, p, hz⟩ := I.tuple hq
    obtain ⟨f0, f1, f2, f3, f4, f5⟩ := hf it (by simp)
    have hl := rv.length
    exact wpAny_pyNext_enumT_end (I.ok.hd hc) he hit p (by simp; omega) fun h' eb => ⟨rfl, I.turned (t' := s.toks) (fun b o hb q => eb b o hb q) f0 f1 f3 f4 f5⟩
  self := fun A i s Q E st h => let ⟨⟨_, he⟩, _⟩ := st; wpAny_pyIter_enum he h
theorem pi_enumT {X : Cx} {e : Expr} {ta : TA} {p pos tpos : Pos} {elts : List Expr} {kk : Nat} (hg : Gl X "enumerate") (hm : X.mg "enumerate" = none) (ha : PA X [e] ta) (hs : starEach [e] X.env = [(false, eval e X.env)] := by rfl) :
    PI X (.Tuple elts kk tpos) (.Call (.Name "enumerate" p) [e] [] pos) (fun σ H R => ta σ H fun vs H1 => ∃ a, vs = [.ref a] ∧ ((∃ xs, SqL X.K H1 a xs ∧ R (Ite X.K a) H1) ∨ (∃ xs, SqT X.K H1 a xs ∧ R (IteT X.K a) H1))) := by
  refine ⟨fun pins s σ H R I h => ?_⟩
  refine Call_ (ld_blt I hg hm boot_enumerate (PyProof.Rows.callWith_type1 (thn (ha.run pos pins s σ H _ I h) fun us s1 ⟨vs, H1, I1, r1, q1⟩ => ?_) hs rfl))
  obtain ⟨a, ex, q⟩ := q1
  subst ex
  cases r1 with
  | cons r rr =>
    cases rr
    cases r
    have fp : ∀ b ∈ [s1.heap.objs.size + 1, s1.heap.objs.size], FpOk X pins H1 b := fun b hb => by
      have e' : b = s1.heap.objs.size + 1 ∨ b = s1.heap.objs.size := by simpa using hb
      have hle : s1.heap.objs.size ≤ b := by
        rcases e' with z | z
        · rw [z]; exact Nat.le_add_right _ _
        · rw [z]; exact Nat.le_refl _
      exact I1.fpOk hle (I1.hok.fresh hle)
    rcases q with ⟨xs, hq, q⟩ | ⟨xs, hq, q⟩
    · obtain ⟨its, rv, p', hz⟩ := I1.list hq
      refine call_enumerate_list p'.isList fun h' he hit hsz hk => wpAny_pyIter_enum he ?_
      have I2 : Inv X pins σ H1 { s1 with heap := h' } := I1.kept (t' := s1.toks) hk
      exact ⟨s1.heap.objs.size + 1, [s1.heap.objs.size + 1, s1.heap.objs.size], _, _, H1, rfl, I2, turn_enum a (s1.heap.objs.size + 1) s1.heap.objs.size, ⟨⟨.none, he⟩, hit, Nat.succ_ne_self _⟩, fp, q⟩
    · obtain ⟨its, rv, p', hz⟩ := I1.tuple hq
      have hlt : a < s1.heap.objs.size := p'.lt
      refine call_enumerate_tup (show s1.heap.IsTuple a its.toArray from p') fun h' he hit hsz hk => wpAny_pyIter_enum he ?_
      have I2 : Inv X pins σ H1 { s1 with heap := h' } := I1.kept (t' := s1.toks) hk
      exact ⟨s1.heap.objs.size + 1, [s1.heap.objs.size + 1, s1.heap.objs.size], _, _, H1, rfl, I2, turn_enumT a (s1.heap.objs.size + 1) s1.heap.objs.size (Nat.ne_of_gt (Nat.lt_succ_of_lt hlt)) (Nat.ne_of_gt hlt), ⟨⟨.none, he⟩, hit, Nat.succ_ne_self _⟩, fp, q⟩
end L2
end
section
set_option linter.all false
set_option Elab.async false
set_option maxHeartbeats 2000000
set_option autoImplicit false
namespace Mi
open PySem L2
section
variable {G : Gx} {X : L2.Cx} {Wx : WX} {pos : Pos} {a b c e : Expr} {es : List Expr} {r : Sg → List Ob → R (List W)} {va vb vc : Sg → List Ob → R Val} {cx : Cx}
variable {ρ ρ1 zs : List Addr} {H H1 H2 : Hp} {o o1 : List Ob} {D : Ends} {σ : L2.St} {τ : Sg}
/-! ### younger things dropped -/
theorem take_get {α : Type} {l : List α} {n k : Nat} {x : α} (h : (l.take n)[k]? = some x) : k < n ∧ l[k]? = some x := by
  rw [List.getElem?_take] at h
  split at h
  · rename_i hk; exact ⟨hk, h⟩
  · cases h
theorem get_take {α : Type} {l : List α} {n k : Nat} {x : α} (hk : k < n) (h : l[k]? = some x) : (l.take n)[k]? = some x := by
  rw [List.getElem?_take, if_pos hk]; exact h
theorem rw_take {n : Nat} {w : W} {v : V} (hl : locOk n w) (h : RW G ρ zs H w v) : RW G (ρ.take n) zs H w v := by
  cases w with
  | d x => exact h
  | loc k =>
    obtain ⟨a, e, r⟩ := h
    exact ⟨a, get_take hl e, r⟩
theorem locOk.mono {n m : Nat} {w : W} (h : locOk n w) (hk : n ≤ m) : locOk m w := by
  cases w with
  | d _ => trivial
  | loc k => exact Nat.lt_of_lt_of_le h hk
theorem rws_take {n : Nat} : ∀ {ws : List W} {vs : List V}, (∀ w ∈ ws, locOk n w) → RWs G ρ zs H ws vs → RWs G (ρ.take n) zs H ws vs
  | _, _, _, .nil => .nil
  | _, _, hl, .cons h r => .cons (rw_take (hl _ (by simp)) h) (rws_take (fun w m => hl w (by simp [m])) r)
theorem rwf_take {n : Nat} : ∀ {ws : List (Nat × W)} {vs : List (Str × V)}, (∀ w ∈ ws, locOk n w.2) → RWf G ρ zs H ws vs → RWf G (ρ.take n) zs H ws vs
  | _, _, _, .nil => .nil
  | _, _, hl, .cons h r => .cons ⟨h.1, rw_take (hl _ (by simp)) h.2⟩ (rwf_take (fun w m => hl w (by simp [m])) r)
theorem Obs.take (b : Obs G ρ zs H o) (n : Nat) : Obs G (ρ.take n) zs H (o.take n) := by
  refine ⟨fun a m => b.sub a (List.mem_of_mem_take m), b.nd.sublist (List.take_sublist _ _), by rw [List.length_take, List.length_take, b.len], b.zm, fun k u c e q => ?_, b.av, b.er⟩
  obtain ⟨hk, e⟩ := take_get e
  obtain ⟨_, q⟩ := take_get q
  exact (b.ob k u c e q).to (fun _ e => e) (fun _ _ l r => rw_take (l.mono (Nat.le_of_lt hk)) r) (fun _ t => t) rfl rfl rfl rfl rfl
theorem Obs.takeS (b : Obs G ρ ρ H o) (n : Nat) : Obs G (ρ.take n) (ρ.take n) H (o.take n) := (b.take n).less (fun a m => List.mem_of_mem_take m) fun _ m => m
theorem Sl.take {n : Nat} (h : under n τ = true) (l : Sl G ρ zs H τ σ) : Sl G (ρ.take n) zs H τ σ := ⟨l.len, fun i w e => by
  obtain ⟨v, e1, e2⟩ := l.at_ i w e
  refine ⟨v, e1, rw_take ?_ e2⟩
  have go : ∀ (τ : Sg) (i : Nat), under n τ = true → τ[i]? = some (some w) → locOk n w := by
    intro τ
    induction τ with
    | nil => intro i _ e; simp at e
    | cons x τ ih =>
      intro i hu e
      cases i with
      | zero =>
        simp at e; subst e
        cases w with
        | d _ => trivial
        | loc k => simp [under] at hu; exact hu.1
      | succ i =>
        refine ih i ?_ (by simpa using e)
        rcases x with _ | (_ | k)
        · simpa [under] using hu
        · simpa [under] using hu
        · simp [under] at hu; exact hu.2
  exact go τ i h e, l.er⟩
theorem Sl.kill (l : Sl G ρ zs H τ σ) : ∀ ks : List Nat, Sl G ρ zs H (killAll τ ks) σ
  | [] => l
  | k :: ks => by
    have ih := l.kill ks
    refine ⟨by simp [killAll, ih.len], fun i w e => ih.at_ i w ?_, l.er⟩
    unfold killAll at e
    by_cases hk : k = i
    · subst hk
      by_cases hl : k < (killAll τ ks).length
      · rw [List.getElem?_set_self hl] at e; cases e
      · rw [List.getElem?_eq_none (by simpa using hl)] at e; cases e
    · rw [List.getElem?_set_ne hk] at e; exact e
theorem pre_take {l l' : List Addr} (p : l <+: l') : l'.take l.length = l := by
  obtain ⟨t, rfl⟩ := p
  simp
/-- behind a turn -/
theorem clean_ok {ρ0 : List Addr} {τ2 : Sg} {o2 : List Ob} {σ2 : L2.St} {n : Nat} (p : ρ0 <+: ρ) (hn : n = ρ0.length) (b : Obs G ρ ρ H o2) (l : Sl G ρ ρ H τ2 σ2) (ks : List Nat) :
    ∃ ρ3, ρ0 <+: ρ3 ∧ (∀ a ∈ ρ3, a ∈ ρ) ∧ Obs G ρ3 ρ3 H (trunc n (killAll τ2 ks) o2) ∧ Sl G ρ3 ρ3 H (killAll τ2 ks) σ2 := by
  subst hn
  unfold trunc
  split
  · rename_i hu
    have e := pre_take p
    refine ⟨ρ.take ρ0.length, by rw [e]; exact List.prefix_rfl, fun a m => List.mem_of_mem_take m, b.takeS _, ?_⟩
    exact ((l.kill ks).take hu).less fun a m => List.mem_of_mem_take m
  · exact ⟨ρ, p, fun _ m => m, b, l.kill ks⟩
variable {rb : Sg → List Ob → SR} {rc : Sg → List Ob → R Bool}
/-! ### while -/
theorem ps_whileE {bs : List Stmt} {kill : List Nat} {wf : Nat} (hp : PassesOwn (model X.prog X.w) X.A X.env X.xe) (hi : isIfExp c = false) (hc : EE G X Wx c vc) (hb : PSs X bs (tS G Wx rb)) :
    PS X (.While c bs [] pos) (tS G Wx fun τ o => whileN (fun τ o => asT (vc τ o)) (fun τ o1 => clean o.length kill (rb τ o1)) wf τ o) :=
  PS.weak (ps_while hp (hc.pt hi) hb) fun D σ H ⟨ρ0, τ0, o0, b0, l0, q0⟩ => by
    refine ⟨fun m σ' H' => ∃ ρ τ o, Obs G ρ ρ H' o ∧ Sl G ρ ρ H' τ σ' ∧ ρ0 <+: ρ ∧ Stp ρ0 H ρ H' ∧ Mi.SP G Wx ρ0 H D (whileN (fun τ o => asT (vc τ o)) (fun τ o1 => clean o0.length kill (rb τ o1)) m τ o), ⟨wf, ρ0, τ0, o0, b0, l0, List.prefix_rfl, Stp.refl, q0⟩, ?_⟩
    rintro m σ' H' ⟨ρ, τ, o, b, l, p, s, q⟩
    cases m with
    | zero => exact False.elim q
    | succ m =>
      unfold whileN at q
      refine ⟨ρ, τ, o, b, l, ?_⟩
      show RP G Wx ρ H' σ' _ (asT (vc τ o))
      cases z : asT (vc τ o) with
      | bad => simp only [z] at q; exact q
      | exc e o1 =>
        simp only [z] at q
        intro cls d H2 hx
        obtain ⟨ρ', p', s', b', x⟩ := hx
        exact q cls d σ' H2 ⟨ρ', p.trans p', s.trans s', b', l.step p' s' b.zm, x⟩
      | ok k o1 =>
        cases k with
        | false =>
          simp only [z] at q
          intro H1 hp1
          obtain ⟨ρ1, p1, s1, b1⟩ := hp1
          exact q σ' H1 ⟨ρ1, p.trans p1, s.trans s1, b1, l.step p1 s1 b.zm⟩
        | true =>
          simp only [z] at q
          intro H1 hp1
          obtain ⟨ρ1, p1, s1, b1⟩ := hp1
          have pp := p.trans p1
          have ss := s.trans s1
          refine ⟨fun σ' H' => ∃ m', m' < m + 1 ∧ ∃ ρ τ o, Obs G ρ ρ H' o ∧ Sl G ρ ρ H' τ σ' ∧ ρ0 <+: ρ ∧ Stp ρ0 H ρ H' ∧ Mi.SP G Wx ρ0 H D (whileN (fun τ o => asT (vc τ o)) (fun τ o1 => clean o0.length kill (rb τ o1)) m' τ o), fun σ' H' h => h, ρ1, τ, o1, b1, l.step p1 s1 b.zm, ?_⟩
          have again : ∀ {τ2 : Sg} {o2 : List Ob}, Mi.SP G Wx ρ0 H D (whileN (fun τ o => asT (vc τ o)) (fun τ o1 => clean o0.length kill (rb τ o1)) m (killAll τ2 kill) (trunc o0.length (killAll τ2 kill) o2)) →
              ∀ σ2 H2, PostN G ρ1 H1 τ2 o2 σ2 H2 → ∃ m', m' < m + 1 ∧ ∃ ρ τ o, Obs G ρ ρ H2 o ∧ Sl G ρ ρ H2 τ σ2 ∧ ρ0 <+: ρ ∧ Stp ρ0 H ρ H2 ∧ Mi.SP G Wx ρ0 H D (whileN (fun τ o => asT (vc τ o)) (fun τ o1 => clean o0.length kill (rb τ o1)) m' τ o) := by
            intro τ2 o2 q σ2 H2 hp2
            obtain ⟨ρ2, p2, s2, b2, l2⟩ := hp2
            obtain ⟨ρ3, p3, m3, b3, l3⟩ := clean_ok (pp.trans p2) b0.len.symm b2 l2 kill
            exact ⟨m, Nat.lt_succ_self m, ρ3, _, _, b3, l3, p3, (ss.trans s2).sub m3, q⟩
          cases y : rb τ o1 with
          | bad => simp only [y, clean] at q; exact q
          | next τ2 o2 => simp only [y, clean] at q; exact again q
          | cont τ2 o2 => simp only [y, clean] at q; exact again q
          | brk τ2 o2 => simp only [y, clean] at q; exact fun σ2 H2 hp2 => q σ2 H2 (hp2.lift pp ss)
          | ret v o2 => simp only [y, clean] at q; exact fun v H2 hp2 => q v H2 (hp2.lift pp ss)
          | exc e τ2 o2 => simp only [y, clean] at q; exact fun cls d σ2 H2 hp2 => q cls d σ2 H2 (hp2.lift pp ss)
/-! ### iterators -/
/-- the same but for what is avoided -/
abbrev gA (G : Gx) (A : List Addr) : Gx := { G with av := A }
def IOk (G : Gx) (J : It) (f : Itr) (ρ0 : List Addr) (H0 : Hp) : Prop := ∀ (A : List Addr) (ρ : List Addr) (H : Hp) (o : List Ob) (i : Nat), (∀ a ∈ A, a ∈ G.av ∨ H0 a = none) → ρ0 <+: ρ → Stp ρ0 H0 ρ H → Obs (gA G A) ρ ρ H o → match f o i with
  | none => True
  | some none => J.stop i H
  | some (some it) => J.go i H ∧ ∀ x H', J.yld i H x H' → Stp ρ H ρ H' ∧ (∀ a u, H a = some u → H' a = some u) ∧ RIt (gA G A) ρ H' it x
def PostI (G : Gx) (ρ : List Addr) (H : Hp) (f : Itr) (o' : List Ob) (J : It) (H' : Hp) : Prop := ∃ ρ', ρ <+: ρ' ∧ Stp ρ H ρ' H' ∧ Obs G ρ' ρ' H' o' ∧ IOk G J f ρ' H'
def tI (G : Gx) (Wx : WX) (r : Sg → List Ob → R Itr) : TI := fun σ H Q => ∃ ρ τ o, Obs G ρ ρ H o ∧ Sl G ρ ρ H τ σ ∧ RP G Wx ρ H σ (fun f o' => ∀ J H', PostI G ρ H f o' J H' → Q J H') (r τ o)
theorem PI.weak {tg : Expr} {t t' : TI} (h : PI X tg e t) (w : ∀ σ H Q, t' σ H Q → t σ H Q) : PI X tg e t' := ⟨fun pins s σ H R I q => h.run pins s σ H R I (w σ H R q)⟩
theorem PI.or {tg : Expr} {t t' : TI} (h : PI X tg e t) (h' : PI X tg e t') : PI X tg e (fun σ H Q => t σ H Q ∨ t' σ H Q) := ⟨fun pins s σ H Q I q => by
  rcases q with q | q
  · exact h.run pins s σ H Q I q
  · exact h'.run pins s σ H Q I q⟩
variable {ri : Sg → List Ob → R Itr}
/-! ### for -/
theorem ps_forE {bs : List Stmt} {tg : Expr} {t : T} {kill : List Nat} {wf : Nat} (hp : PassesOwn (model X.prog X.w) X.A X.env X.xe) (hc : X.calm = true) (hi : PI X tg e (tI G Wx ri)) (hg : PG X tg (gT G t)) (hb : PSs X bs (tS G Wx rb))
    (hs : ∀ x, foldedSetIterable e X.env x = pure x) :
    PS X (.For tg e bs [] pos) (tS G Wx fun τ o => bndS (ri τ o) τ fun f o1 => forG (fun x τ o2 => match bindT t x τ with
        | some τ1 => clean o1.length kill (rb τ1 o2)
        | none => .bad) f wf 0 τ o1) :=
  PS.weak (ps_for hp hc hi hg hb hs) fun D σ H ⟨ρ, τ, o, b, l, q⟩ => by
    refine ⟨ρ, τ, o, b, l, (SP.bnd (f := fun f o1 => forG (fun x τ o2 => match bindT t x τ with
        | some τ1 => clean o1.length kill (rb τ1 o2)
        | none => .bad) f wf 0 τ o1) q l b.zm).mono fun f o0 q0 J H0 hI => ?_⟩
    obtain ⟨ρ0, p0, s0, b0, hJ⟩ := hI
    replace q0 := q0.lift p0 s0
    replace l := l.step p0 s0 b.zm
    refine ⟨fun i m σ' H' => ∃ ρ τ o, Obs G ρ ρ H' o ∧ Sl G ρ ρ H' τ σ' ∧ ρ0 <+: ρ ∧ Stp ρ0 H0 ρ H' ∧ Mi.SP G Wx ρ0 H0 D (forG (fun x τ o2 => match bindT t x τ with
        | some τ1 => clean o0.length kill (rb τ1 o2)
        | none => .bad) f m i τ o), ⟨wf, ρ0, τ, o0, b0, l, List.prefix_rfl, Stp.refl, q0⟩, ?_⟩
    rintro i m σ' H' ⟨ρ, τ, o, b, l, p, s, q⟩
    cases m with
    | zero => exact False.elim q
    | succ m =>
      unfold forG at q
      have hj := hJ G.av ρ H' o i (fun a m => .inl m) p s b
      cases y : f o i with
      | none => simp only [y] at q; exact False.elim q
      | some it =>
        cases it with
        | none =>
          simp only [y] at q hj
          exact .inl ⟨hj, q σ' H' ⟨ρ, p, s, b, l⟩⟩
        | some it =>
          simp only [y] at q hj
          refine .inr ⟨hj.1, fun σ' H' => ∃ m', m' < m + 1 ∧ ∃ ρ τ o, Obs G ρ ρ H' o ∧ Sl G ρ ρ H' τ σ' ∧ ρ0 <+: ρ ∧ Stp ρ0 H0 ρ H' ∧ Mi.SP G Wx ρ0 H0 D (forG (fun x τ o2 => match bindT t x τ with
            | some τ1 => clean o0.length kill (rb τ1 o2)
            | none => .bad) f m' (i + 1) τ o), fun σ' H' h => h, fun x H1 hx => ?_⟩
          obtain ⟨s1, k1, r1⟩ := hj.2 x H1 hx
          have b1 := b.grow s1 k1
          have ss := s.trans s1
          cases z : bindT t it τ with
          | none => simp only [z] at q; exact False.elim q
          | some τ1 =>
            simp only [z] at q
            refine ⟨ρ, τ, it, τ1, b1.zm, l.step List.prefix_rfl s1 b.zm, r1, z, fun σ1 l1 _ => ⟨ρ, τ1, o, b1, l1, ?_⟩⟩
            have again : ∀ {τ2 : Sg} {o2 : List Ob}, Mi.SP G Wx ρ0 H0 D (forG (fun x τ o2 => match bindT t x τ with
                | some τ1 => clean o0.length kill (rb τ1 o2)
                | none => .bad) f m (i + 1) (killAll τ2 kill) (trunc o0.length (killAll τ2 kill) o2)) →
              ∀ σ2 H2, PostN G ρ H1 τ2 o2 σ2 H2 → ∃ m', m' < m + 1 ∧ ∃ ρ τ o, Obs G ρ ρ H2 o ∧ Sl G ρ ρ H2 τ σ2 ∧ ρ0 <+: ρ ∧ Stp ρ0 H0 ρ H2 ∧ Mi.SP G Wx ρ0 H0 D (forG (fun x τ o2 => match bindT t x τ with
                | some τ1 => clean o0.length kill (rb τ1 o2)
                | none => .bad) f m' (i + 1) τ o) := by
              intro τ2 o2 q σ2 H2 hp2
              obtain ⟨ρ2, p2, s2, b2, l2⟩ := hp2
              obtain ⟨ρ3, p3, m3, b3, l3⟩ := clean_ok (p.trans p2) b0.len.symm b2 l2 kill
              exact ⟨m, Nat.lt_succ_self m, ρ3, _, _, b3, l3, p3, (ss.trans s2).sub m3, q⟩
            cases y : rb τ1 o with
            | bad => simp only [y, clean] at q; exact q
            | next τ2 o2 => simp only [y, clean] at q; exact again q
            | cont τ2 o2 => simp only [y, clean] at q; exact again q
            | brk τ2 o2 => simp only [y, clean] at q; exact fun σ2 H2 hp2 => q σ2 H2 (hp2.lift p ss)
            | ret v o2 => simp only [y, clean] at q; exact fun v H2 hp2 => q v H2 (hp2.lift p ss)
            | exc e τ2 o2 => simp only [y, clean] at q; exact fun cls d σ2 H2 hp2 => q cls d σ2 H2 (hp2.lift p ss)
end
end Mi
end
section
set_option linter.all false
set_option Elab.async false
set_option maxHeartbeats 2000000
set_option autoImplicit false
namespace Mi
open PySem L2
section
variable {G : Gx} {X : L2.Cx} {Wx : WX} {pos : Pos} {a b c e : Expr} {es : List Expr} {r : Sg → List Ob → R (List W)} {va vb vc : Sg → List Ob → R Val} {cx : Cx}
variable {ρ ρ1 zs : List Addr} {H H1 H2 : Hp} {o o1 : List Ob} {D : Ends} {σ : L2.St} {τ : Sg}
/-! ### the same data elsewhere -/
structure Mv (G : Gx) (zs : List Addr) (H : Hp) (G' : Gx) (zs' : List Addr) (H' : Hp) : Prop where
  ext : ∀ c f, H c = some (.ext f) → H' c = some (.ext f)
  ga : G'.ga = G.ga
  ic : G'.isC = G.isC
  ie : G'.isE = G.isE
  nm : G'.names = G.names
  tp : G'.tp = G.tp
  dr : G'.dr = G.dr
  lst : ∀ a vs, Rd H a (.lst vs) → a ∉ zs → a ∉ G.av → Rd H' a (.lst vs) ∧ a ∉ zs' ∧ a ∉ G'.av
  dct : ∀ a u, Col u → H a = some u → a ∉ zs → a ∉ G.av → H' a = some u ∧ a ∉ zs' ∧ a ∉ G'.av
  tup : ∀ a ob vs, H a = some (.frz ob (.tup vs)) → H' a = some (.frz ob (.tup vs))
  obj : ∀ a C dx fv, H a = some (.ins C dx fv) → a ∉ zs → a ∉ G.av → H' a = some (.ins C dx fv) ∧ a ∉ zs' ∧ a ∉ G'.av
section
variable {G' : Gx} {zs' : List Addr} {H' : Hp} (m : Mv G zs H G' zs' H')
include m
mutual
theorem RD.mv : ∀ {x : Mi.D} {v : V}, RD G zs H x v → RD G' zs' H' x v
  | _, _, .non => .non
  | _, _, .bl b => .bl b
  | _, _, .int i => .int i
  | _, _, .str x => .str x
  | _, _, .lst h n r => .lst (m.lst _ _ h n.1 n.2).1 (m.lst _ _ h n.1 n.2).2 (RDs.mv r)
  | _, _, .tup h d r => .tup (m.tup _ _ _ h) d (RDs.mv r)
  | _, _, .glo h => .glo (by rw [m.ga]; exact h)
  | _, _, .obj h n c r => .obj (m.obj _ _ _ _ h n.1 n.2).1 (m.obj _ _ _ _ h n.1 n.2).2 (by rw [m.ga, m.ic]; exact c) (RDf.mv r)
  | _, _, .dct h n d r => .dct (m.dct _ _ d.col h n.1 n.2).1 (m.dct _ _ d.col h n.1 n.2).2 d (RDs.mv r)
theorem RDs.mv : ∀ {xs : List Mi.D} {vs : List V}, RDs G zs H xs vs → RDs G' zs' H' xs vs
  | _, _, .nil => .nil
  | _, _, .cons h r => .cons (RD.mv h) (RDs.mv r)
theorem RDf.mv : ∀ {xs : List (Nat × Mi.D)} {vs : List (Str × V)}, RDf G zs H xs vs → RDf G' zs' H' xs vs
  | _, _, .nil => .nil
  | _, _, .cons k h r => .cons (by rw [m.nm]; exact k) (RD.mv h) (RDf.mv r)
end
theorem RW.mv : ∀ {w : W} {v : V}, RW G ρ zs H w v → RW G' ρ zs' H' w v
  | .d _, _, h => RD.mv m h
  | .loc _, _, h => h
theorem RWs.mv : ∀ {ws : List W} {vs : List V}, RWs G ρ zs H ws vs → RWs G' ρ zs' H' ws vs
  | _, _, .nil => .nil
  | _, _, .cons h r => .cons (RW.mv m h) (RWs.mv r)
theorem RWf.mv : ∀ {ws : List (Nat × W)} {vs : List (Str × V)}, RWf G ρ zs H ws vs → RWf G' ρ zs' H' ws vs
  | _, _, .nil => .nil
  | _, _, .cons h r => .cons ⟨by rw [m.nm]; exact h.1, RW.mv m h.2⟩ (RWf.mv r)
theorem Obs.mv (b : Obs G ρ zs H o) (k : ∀ a ∈ ρ, ∀ u, H a = some u → H' a = some u) (hs : ∀ a ∈ ρ, a ∈ zs') (hz : Zm zs' H') (ha : ∀ a ∈ G'.av, Mut (H' a) ∧ a ∉ zs') (hx : ∀ e, G'.er = some e → RX G' zs' e.x e.cls e.d H') : Obs G' ρ zs' H' o := by
  refine ⟨hs, b.nd, b.len, hz, fun n u c e q => ?_, ha, hx⟩
  have hm := mem_of_get q
  exact (b.ob n u c e q).to (fun u e => k c hm _ e) (fun _ _ _ r => RW.mv m r) (fun _ t => tab_keep t (fun u e => k c hm _ e) m.ext) m.ga m.ic m.nm m.tp m.dr
theorem Sl.mv (hx : ∀ e, G'.er = some e → σ[e.slot]? = some (some (.ref e.a))) (l : Sl G ρ zs H τ σ) : Sl G' ρ zs' H' τ σ := ⟨l.len, fun i w e => by
  obtain ⟨v, e1, e2⟩ := l.at_ i w e
  exact ⟨v, e1, RW.mv m e2⟩, hx⟩
end
/-- fresh things may be avoided -/
theorem Mv.toA {A : List Addr} (h : ∀ a ∈ A, a ∈ G.av ∨ H a = none) : Mv G zs H (gA G A) zs H where
  ext := fun _ _ h => h
  ga := rfl
  ic := rfl
  ie := rfl
  nm := rfl
  tp := rfl
  dr := rfl
  lst := fun a u r n1 n2 => ⟨r, n1, fun m => (h a m).elim n2 fun z => by rcases r with r | ⟨_, r⟩ <;> rw [z] at r <;> cases r⟩
  dct := fun a u _ r n1 n2 => ⟨r, n1, fun m => (h a m).elim n2 fun z => by rw [z] at r; cases r⟩
  tup := fun _ _ _ h => h
  obj := fun a C dx fv r n1 n2 => ⟨r, n1, fun m => (h a m).elim n2 fun z => by rw [z] at r; cases r⟩
/-! ### lists and tuples walked -/
def SqX (K : PySem.W.Frag) (k : Bool) (H : Hp) (a : Addr) (xs : List V) : Prop := if k then SqL K H a xs else SqT K H a xs
def AtOk (G : Gx) (k : Bool) (w : W) (a : Addr) (ρ0 : List Addr) (H0 : Hp) : Prop := ∀ (A : List Addr) (ρ : List Addr) (H : Hp) (o : List Ob) (i : Nat), (∀ a ∈ A, a ∈ G.av ∨ H0 a = none) → ρ0 <+: ρ → Stp ρ0 H0 ρ H → Obs (gA G A) ρ ρ H o → match atW w o i with
  | none => True
  | some none => ∃ vs, SqX G.K k H a vs ∧ vs.length ≤ i
  | some (some x) => ∃ vs u, SqX G.K k H a vs ∧ vs[i]? = some u ∧ RW (gA G A) ρ ρ H x u
theorem AtOk.later {k : Bool} {w : W} {a : Addr} (h : AtOk G k w a ρ H) (p : ρ <+: ρ1) (s : Stp ρ H ρ1 H1) : AtOk G k w a ρ1 H1 := fun A ρ' H' o i hA p' s' b => h A ρ' H' o i (fun a m => (hA a m).imp_right fun z => s.back z) (p.trans p') (s.trans s') b
theorem seq_at {k : Bool} {w : W} {v : V} (b : Obs G ρ ρ H o) (rw' : RW G ρ ρ H w v) (hk : kindW o w = some k) : ∃ a, v = .ref a ∧ (∃ xs, SqX G.K k H a xs) ∧ AtOk G k w a ρ H := by
  cases w with
  | d d =>
    cases d with
    | tup xs =>
      simp [kindW] at hk; subst hk
      cases rw' with
      | @tup a ob vs _ ha da ra =>
        refine ⟨a, rfl, ⟨vs, sqT_frz ha⟩, fun A ρ1 H1 o1 i hA p s b1 => ?_⟩
        have h1 := s.ext a _ ha (zm_frz b.zm ha)
        have r1 := RDs.step (G := gA G A) s b.zm (RDs.mv (Mv.toA hA) ra)
        have e0 : atW (.d (.tup xs)) o1 i = some (xs[i]?.map .d) := rfl
        rw [e0]
        cases z : xs[i]? with
        | none => exact ⟨vs, sqT_frz h1, by rw [← ra.length]; exact List.getElem?_eq_none_iff.mp z⟩
        | some x =>
          obtain ⟨u, e1, e2⟩ := r1.get z
          exact ⟨vs, u, sqT_frz h1, e1, e2⟩
    | lst xs =>
      simp [kindW] at hk; subst hk
      cases rw' with
      | @lst a vs _ ha na ra =>
        refine ⟨a, rfl, ⟨vs, .inl ha⟩, fun A ρ1 H1 o1 i hA p s b1 => ?_⟩
        have h1 := (s.rd ha na.1).1
        have r1 := RDs.step (G := gA G A) s b.zm (RDs.mv (Mv.toA hA) ra)
        have e0 : atW (.d (.lst xs)) o1 i = some (xs[i]?.map .d) := rfl
        rw [e0]
        cases z : xs[i]? with
        | none => exact ⟨vs, .inl h1, by rw [← ra.length]; exact List.getElem?_eq_none_iff.mp z⟩
        | some x =>
          obtain ⟨u, e1, e2⟩ := r1.get z
          exact ⟨vs, u, .inl h1, e1, e2⟩
    | _ => simp [kindW] at hk
  | loc n =>
    obtain ⟨a, ea, rfl⟩ := rw'
    cases q : o[n]? with
    | none => simp [kindW, q] at hk
    | some ob =>
      have rb := b.ob n ob a q ea
      cases ob with
      | lst ws =>
        simp [kindW, q] at hk; subst hk
        obtain ⟨vs, ha, _⟩ := rb
        refine ⟨a, rfl, ⟨vs, SqL.of ha⟩, fun A ρ1 H1 o1 i hA p s b1 => ?_⟩
        unfold atW
        simp only
        cases q1 : o1[n]? with
        | none => trivial
        | some ob1 =>
          have rb1 := b1.ob n ob1 a q1 (pre_get p ea)
          cases ob1 with
          | lst ws1 =>
            obtain ⟨vs1, ha1, r1, _⟩ := rb1
            simp only
            cases z : ws1[i]? with
            | none => exact ⟨vs1, SqL.of ha1, by rw [← r1.length]; exact List.getElem?_eq_none_iff.mp z⟩
            | some x =>
              obtain ⟨u, e1, e2⟩ := rws_get r1 z
              exact ⟨vs1, u, SqL.of ha1, e1, e2⟩
          | _ => trivial
      | _ => simp [kindW, q] at hk
/-- over a list or a tuple, by values -/
theorem pi_seq {l tg : Expr} {tl : TE} (hl : PE X l tl) : PI X tg l (fun σ H R => tl σ H fun x H1 => ∃ a, x = .ref a ∧ ((∃ xs, SqL X.K H1 a xs ∧ R (Itl X.K a) H1) ∨ (∃ xs, SqT X.K H1 a xs ∧ R (Itt X.K a) H1))) := by
  refine ⟨fun pins s σ H R I h => ?_⟩
  refine thn (hl.run pins s σ H _ I h) fun v s1 ⟨x, H1, I1, r1, q1⟩ => ?_
  obtain ⟨a, e, q⟩ := q1
  subst e
  cases r1
  have fp : ∀ b ∈ [s1.heap.objs.size], FpOk X pins H1 b := fun b hb => by
    have e : b = s1.heap.objs.size := by simpa using hb
    subst e
    exact I1.fpOk (Nat.le_refl _) (I1.hok.fresh (Nat.le_refl _))
  rcases q with ⟨xs, hq, q⟩ | ⟨xs, hq, q⟩
  · obtain ⟨its, rv, p, hz⟩ := I1.list hq
    refine wpAny_pyIter_list p.isList ?_
    exact ⟨s1.heap.objs.size, [s1.heap.objs.size], _, _, H1, rfl, I1.kept (t' := s1.toks) fun b o e => Heap.get?_push_of_some _ e, turn_list a _, ⟨_, Heap.get?_push_size _ rfl, rfl, rfl⟩, fp, q⟩
  · obtain ⟨its, rv, p, hz⟩ := I1.tuple hq
    refine wpAny_pyIter_tuple (show s1.heap.IsTuple a its.toArray from p) ?_
    exact ⟨s1.heap.objs.size, [s1.heap.objs.size], _, _, H1, rfl, I1.kept (t' := s1.toks) fun b o e => Heap.get?_push_of_some _ e, turn_tuple a _, ⟨_, Heap.get?_push_size _ rfl, rfl, rfl⟩, fp, q⟩
theorem iok_one {k : Bool} {w : W} {a : Addr} (h : AtOk G k w a ρ H) : IOk G (if k then Itl G.K a else Itt G.K a) (oneI w) ρ H := fun A ρ1 H1 o i hA p s b => by
  have q := h A ρ1 H1 o i hA p s b
  unfold oneI
  rcases z : atW w o i with _ | (_ | x)
  · trivial
  · simp only [z] at q ⊢
    cases k <;> exact q
  · simp only [z] at q ⊢
    obtain ⟨vs, u, h1, h2, h3⟩ := q
    cases k
    · exact ⟨⟨vs, u, h1, h2⟩, fun y H' ⟨e, f⟩ => by
        subst e
        have e2 := f vs h1
        rw [h2] at e2; cases e2
        exact ⟨Stp.refl, fun _ _ h => h, h3⟩⟩
    · exact ⟨⟨vs, u, h1, h2⟩, fun y H' ⟨e, f⟩ => by
        subst e
        have e2 := f vs h1
        rw [h2] at e2; cases e2
        exact ⟨Stp.refl, fun _ _ h => h, h3⟩⟩
theorem new_pair {xs : List V} {ws : List W} {T : Addr} (z : Zm ρ H) (hT : H T = none) (r : RWs G ρ ρ H ws xs) : Stp ρ H ρ (upd H T (.tup xs)) ∧ (∀ a u, H a = some u → upd H T (.tup xs) a = some u) ∧ RIt G ρ (upd H T (.tup xs)) (.many ws) (.ref T) :=
  ⟨Stp.new hT, keepN hT, T, xs, rfl, .inl (.inl upd_same), r.step List.prefix_rfl (Stp.new hT) z⟩
theorem iok_enum {k : Bool} {w : W} {a : Addr} (h : AtOk G k w a ρ H) : IOk G (if k then Ite G.K a else IteT G.K a) (enumI w) ρ H := fun A ρ1 H1 o i hA p s b => by
  have q := h A ρ1 H1 o i hA p s b
  unfold enumI
  rcases z : atW w o i with _ | (_ | x)
  · trivial
  · simp only [z] at q ⊢
    cases k <;> exact q
  · simp only [z] at q ⊢
    obtain ⟨vs, u, h1, h2, h3⟩ := q
    have go : ∀ (T : Addr) (y : V), H1 T = none → y = u → Stp ρ1 H1 ρ1 (upd H1 T (.tup [.int (i : Nat), y])) ∧ (∀ a u, H1 a = some u → upd H1 T (.tup [.int (i : Nat), y]) a = some u) ∧ RIt (gA G A) ρ1 (upd H1 T (.tup [.int (i : Nat), y])) (.many [.d (.int (i : Nat)), x]) (.ref T) := by
      intro T y hT e
      subst e
      exact new_pair b.zm hT (.cons (RD.int _) (.cons h3 .nil))
    cases k
    · exact ⟨⟨vs, u, h1, h2⟩, fun y H' ⟨T, x', e, hT, eH, f⟩ => by
        subst e eH
        have e2 := f vs h1
        rw [h2] at e2
        exact go T x' hT (Option.some.inj e2).symm⟩
    · exact ⟨⟨vs, u, h1, h2⟩, fun y H' ⟨T, x', e, hT, eH, f⟩ => by
        subst e eH
        have e2 := f vs h1
        rw [h2] at e2
        exact go T x' hT (Option.some.inj e2).symm⟩
theorem iok_rng {lo : Int} {n : Nat} : IOk G (L2.Itr lo n) (rngI lo n) ρ H := fun A ρ1 H1 o i hA p s b => by
  unfold rngI
  split
  · rename_i h
    split at h
    · cases h
    · cases h
  · rename_i h
    split at h
    · cases h
    · rename_i hn; exact Nat.le_of_not_lt hn
  · rename_i it h
    split at h
    · rename_i hn
      cases h
      exact ⟨hn, fun x H' ⟨e, e2⟩ => by subst e e2; exact ⟨Stp.refl, fun _ _ h => h, RD.int _⟩⟩
    · cases h
theorem iok_zip {k : Bool} {w w' : W} {a a' : Addr} (h : AtOk G k w a ρ H) (h' : AtOk G k w' a' ρ H) : IOk G (if k then Itz G.K a a' else RZ.ItzT G.K a a') (zipI w w') ρ H := fun A ρ1 H1 o i hA p s b => by
  have q := h A ρ1 H1 o i hA p s b
  have q' := h' A ρ1 H1 o i hA p s b
  unfold zipI
  rcases z : atW w o i with _ | (_ | x)
  · trivial
  · simp only [z] at q ⊢
    obtain ⟨vs, h1, h2⟩ := q
    rcases z' : atW w' o i with _ | (_ | x')
    · trivial
    · simp only [z'] at q' ⊢
      obtain ⟨vs', h1', _⟩ := q'
      cases k <;> exact ⟨vs, vs', h1, h1', .inl h2⟩
    · simp only [z'] at q' ⊢
      obtain ⟨vs', _, h1', _⟩ := q'
      cases k <;> exact ⟨vs, vs', h1, h1', .inl h2⟩
  · simp only [z] at q ⊢
    obtain ⟨vs, u, h1, h2, h3⟩ := q
    rcases z' : atW w' o i with _ | (_ | x')
    · trivial
    · simp only [z'] at q' ⊢
      obtain ⟨vs', h1', h2'⟩ := q'
      cases k <;> exact ⟨vs, vs', h1, h1', .inr h2'⟩
    · simp only [z'] at q' ⊢
      obtain ⟨vs', u', h1', h2', h3'⟩ := q'
      have go : ∀ (T : Addr) (y y' : V), H1 T = none → y = u → y' = u' → Stp ρ1 H1 ρ1 (upd H1 T (.tup [y, y'])) ∧ (∀ a u, H1 a = some u → upd H1 T (.tup [y, y']) a = some u) ∧ RIt (gA G A) ρ1 (upd H1 T (.tup [y, y'])) (.many [x, x']) (.ref T) := by
        intro T y y' hT e e'
        subst e e'
        exact new_pair b.zm hT (.cons h3 (.cons h3' .nil))
      cases k
      · exact ⟨⟨vs, vs', u, u', h1, h1', h2, h2'⟩, fun y H' ⟨T, x1, x2, e, hT, eH, f, f'⟩ => by
          subst e eH
          have e2 := f vs h1
          have e3 := f' vs' h1'
          rw [h2] at e2; rw [h2'] at e3
          exact go T x1 x2 hT (Option.some.inj e2).symm (Option.some.inj e3).symm⟩
      · exact ⟨⟨vs, vs', u, u', h1, h1', h2, h2'⟩, fun y H' ⟨T, x1, x2, e, hT, eH, f, f'⟩ => by
          subst e eH
          have e2 := f vs h1
          have e3 := f' vs' h1'
          rw [h2] at e2; rw [h2'] at e3
          exact go T x1 x2 hT (Option.some.inj e2).symm (Option.some.inj e3).symm⟩
end
end Mi
end
section
set_option linter.all false
set_option Elab.async false
set_option maxHeartbeats 2000000
set_option autoImplicit false
namespace Mi
open PySem L2
section
variable {G : Gx} {X : L2.Cx} {Wx : WX} {pos : Pos} {a b c e : Expr} {es : List Expr} {r : Sg → List Ob → R (List W)} {va vb vc : Sg → List Ob → R Val} {cx : Cx}
variable {ρ ρ1 zs : List Addr} {H H1 H2 : Hp} {o o1 : List Ob} {D : Ends} {σ : L2.St} {τ : Sg}
/-! ### what is walked: the evaluator's forms -/
theorem tI_W {R0 : It → Hp → Prop} {ra : Sg → List Ob → R W} {f : W → List Ob → R Itr} (h : tI G Wx (fun τ o => bnd (ra τ o) fun w o1 => f w o1) σ H R0) :
    tW G Wx ra σ H fun v H1 => ∃ ρ o w, Obs G ρ ρ H1 o ∧ RW G ρ ρ H1 w v ∧ RP G Wx ρ H1 σ (fun f o' => ∀ J H', PostI G ρ H1 f o' J H' → R0 J H') (f w o) := by
  obtain ⟨ρ, τ, o, b, l, h⟩ := h
  refine ⟨ρ, τ, o, b, l, h.bnd.mono fun w o1 q v H1 hp => ?_⟩
  obtain ⟨ρ1, p, s, b1, r⟩ := hp
  refine ⟨ρ1, o1, w, b1, r, q.lift p s fun f o' q J H' hI => q J H' ?_⟩
  obtain ⟨ρ2, p2, s2, b2, i2⟩ := hI
  exact ⟨ρ2, p.trans p2, s.trans s2, b2, i2⟩
theorem kind_of {o : List Ob} {w : W} (h : (kindW o w).isSome = true) : ∃ k, kindW o w = some k := by
  cases q : kindW o w with
  | none => rw [q] at h; cases h
  | some k => exact ⟨k, rfl⟩
theorem pi_of {tg : Expr} (hK : X.K = G.K) (he : EE G X Wx e va) : PI X tg e (tI G Wx fun τ o => bnd (asW (va τ o)) fun w o1 => ofR w o1) :=
  PI.weak (pi_seq he.w) fun σ H R0 h => (tI_W h).mono fun v H1 ⟨ρ, o, w, b, rw', q⟩ => by
    unfold ofR at q
    split at q
    · rename_i hk
      obtain ⟨k, hk⟩ := kind_of hk
      obtain ⟨a, rfl, ⟨xs, hq⟩, at_⟩ := seq_at b rw' hk
      have q2 := q (if k then Itl G.K a else Itt G.K a) H1 ⟨ρ, List.prefix_rfl, Stp.refl, b, iok_one at_⟩
      refine ⟨a, rfl, ?_⟩
      rw [hK]
      cases k
      · exact .inr ⟨xs, hq, q2⟩
      · exact .inl ⟨xs, hq, q2⟩
    · exact False.elim q
/-- one argument -/
def r1 (va : Sg → List Ob → R Val) : Sg → List Ob → R (List W) := fun τ o => bnd (asW (va τ o)) fun w o1 => bnd ((fun _ o => .ok [] o : Sg → List Ob → R (List W)) τ o1) fun ws o2 => .ok (w :: ws) o2
def r2 (va vb : Sg → List Ob → R Val) : Sg → List Ob → R (List W) := fun τ o => bnd (asW (va τ o)) fun w o1 => bnd (r1 vb τ o1) fun ws o2 => .ok (w :: ws) o2
theorem r1_bnd {α : Type} (f : List W → List Ob → R α) (τ : Sg) (o : List Ob) : bnd (r1 va τ o) f = bnd (asW (va τ o)) fun w o1 => f [w] o1 := by
  unfold r1
  cases asW (va τ o) <;> rfl
theorem r2_bnd {α : Type} (f : List W → List Ob → R α) (τ : Sg) (o : List Ob) : bnd (r2 va vb τ o) f = bnd (asW (va τ o)) fun w o1 => bnd (asW (vb τ o1)) fun u o2 => f [w, u] o2 := by
  unfold r2 r1
  cases asW (va τ o) with
  | ok w o1 => simp only [bnd]; cases asW (vb τ o1) <;> rfl
  | exc _ _ => rfl
  | bad => rfl
theorem pa_1 (ha : EE G X Wx a va) (hs : isStar a = false) : PA X [a] (tA G Wx (r1 va)) := pa_consD ha hs pa_nilD
theorem pa_2 (ha : EE G X Wx a va) (hs : isStar a = false) (hb : EE G X Wx b vb) (hs' : isStar b = false) : PA X [a, b] (tA G Wx (r2 va vb)) := pa_consD ha hs (pa_1 hb hs')
theorem tI_A {R0 : It → Hp → Prop} {ra : Sg → List Ob → R (List W)} {f : List W → List Ob → R Itr} (h : tI G Wx (fun τ o => bnd (ra τ o) f) σ H R0) :
    tA G Wx ra σ H fun v H1 => ∃ ρ o w, Obs G ρ ρ H1 o ∧ RWs G ρ ρ H1 w v ∧ RP G Wx ρ H1 σ (fun f o' => ∀ J H', PostI G ρ H1 f o' J H' → R0 J H') (f w o) := by
  obtain ⟨ρ, τ, o, b, l, h⟩ := h
  refine ⟨ρ, τ, o, b, l, (RP.bnd h).mono fun w o1 q v H1 hp => ?_⟩
  obtain ⟨ρ1, p, s, b1, r⟩ := hp
  refine ⟨ρ1, o1, w, b1, r, q.lift p s fun f o' q J H' hI => q J H' ?_⟩
  obtain ⟨ρ2, p2, s2, b2, i2⟩ := hI
  exact ⟨ρ2, p.trans p2, s.trans s2, b2, i2⟩
theorem rngOk_of {j : Int} (h : rngOk j = true) : -(2 ^ 62) ≤ j ∧ j < 2 ^ 62 := by
  unfold rngOk at h
  simp only [Bool.and_eq_true, decide_eq_true_eq] at h
  exact h
theorem tI_fn {R0 : It → Hp → Prop} {f g : Sg → List Ob → R Itr} (e : f = g) (h : tI G Wx f σ H R0) : tI G Wx g σ H R0 := e ▸ h
theorem pi_rng1 {tg : Expr} {p : Pos} (hg : Gl X "range") (hm : X.mg "range" = none) (ha : EE G X Wx a va) (hs : isStar a = false) :
    PI X tg (.Call (.Name "range" p) [a] [] pos) (tI G Wx fun τ o => bnd (r1 va τ o) rangeR) :=
  PI.weak (pi_range1 hg hm (pa_1 ha hs) (starEach_ok hs X.env)) fun σ H R0 h => by
    have h' : tI G Wx (fun τ o => bnd (r1 va τ o) fun ws o1 => match ws with | [_] => rangeR ws o1 | _ => .bad) σ H R0 := by
      refine tI_fn ?_ h
      funext τ o
      rw [r1_bnd, r1_bnd]
    refine (tI_A h').mono fun vs H1 ⟨ρ, o, ws, b, rws, q⟩ => ?_
    split at q
    · rename_i w
      obtain ⟨v, rfl, r1⟩ := rws_1 rws
      unfold rangeR at q
      split at q
      · rename_i j heq
        cases heq
        cases r1
        split at q
        · rename_i hj
          obtain ⟨h1, h2⟩ := rngOk_of hj
          exact ⟨j, rfl, h1, h2, q _ H1 ⟨ρ, List.prefix_rfl, Stp.refl, b, iok_rng⟩⟩
        · exact False.elim q
      · rename_i heq; cases heq
      · exact False.elim q
    · exact False.elim q
theorem rws_2 {w u : W} {vs : List V} (h : RWs G ρ zs H [w, u] vs) : ∃ v v', vs = [v, v'] ∧ RW G ρ zs H w v ∧ RW G ρ zs H u v' := by
  cases h with
  | cons r t => cases t with
    | cons r' t => cases t; exact ⟨_, _, rfl, r, r'⟩
theorem pi_rng2 {tg : Expr} {p : Pos} (hg : Gl X "range") (hm : X.mg "range" = none) (ha : EE G X Wx a va) (hs : isStar a = false) (hb : EE G X Wx b vb) (hs' : isStar b = false) :
    PI X tg (.Call (.Name "range" p) [a, b] [] pos) (tI G Wx fun τ o => bnd (r2 va vb τ o) rangeR) :=
  PI.weak (pi_range2 hg hm (pa_2 ha hs hb hs') (by rw [starEach_ok hs, starEach_ok hs']; rfl) (by rw [starEach_ok hs']; rfl)) fun σ H R0 h => by
    have h' : tI G Wx (fun τ o => bnd (r2 va vb τ o) fun ws o1 => match ws with | [_, _] => rangeR ws o1 | _ => .bad) σ H R0 := by
      refine tI_fn ?_ h
      funext τ o
      rw [r2_bnd, r2_bnd]
    refine (tI_A h').mono fun vs H1 ⟨ρ, o, ws, b, rws, q⟩ => ?_
    split at q
    · rename_i w u
      obtain ⟨v, v', rfl, r1, r2⟩ := rws_2 rws
      unfold rangeR at q
      split at q
      · rename_i heq; cases heq
      · rename_i i j heq
        cases heq
        cases r1; cases r2
        split at q
        · rename_i hj
          obtain ⟨hj1, hj2⟩ := bools_and hj
          obtain ⟨h1, h2⟩ := rngOk_of hj1
          obtain ⟨h3, h4⟩ := rngOk_of hj2
          exact ⟨i, j, rfl, ⟨h1, h2, h3, h4⟩, q _ H1 ⟨ρ, List.prefix_rfl, Stp.refl, b, iok_rng⟩⟩
        · exact False.elim q
      · exact False.elim q
    · exact False.elim q
theorem pi_enumE {p tpos : Pos} {elts : List Expr} {kk : Nat} (hK : X.K = G.K) (hg : Gl X "enumerate") (hm : X.mg "enumerate" = none) (ha : EE G X Wx a va) (hs : isStar a = false) :
    PI X (.Tuple elts kk tpos) (.Call (.Name "enumerate" p) [a] [] pos) (tI G Wx fun τ o => bnd (asW (va τ o)) fun w o1 => enumR w o1) :=
  PI.weak (pi_enumT hg hm (pa_1 ha hs) (starEach_ok hs X.env)) fun σ H R0 h => by
    have h' : tI G Wx (fun τ o => bnd (r1 va τ o) fun ws o1 => match ws with | [w] => enumR w o1 | _ => .bad) σ H R0 := by
      refine tI_fn ?_ h
      funext τ o
      rw [r1_bnd]
    refine (tI_A h').mono fun vs H1 ⟨ρ, o, ws, b, rws, q⟩ => ?_
    split at q
    · rename_i w
      obtain ⟨v, rfl, r1⟩ := rws_1 rws
      unfold enumR at q
      split at q
      · rename_i hk
        obtain ⟨k, hk⟩ := kind_of hk
        obtain ⟨a, rfl, ⟨xs, hq⟩, at_⟩ := seq_at b r1 hk
        have q2 := q (if k then Ite G.K a else IteT G.K a) H1 ⟨ρ, List.prefix_rfl, Stp.refl, b, iok_enum at_⟩
        refine ⟨a, rfl, ?_⟩
        rw [hK]
        cases k
        · exact .inr ⟨xs, hq, q2⟩
        · exact .inl ⟨xs, hq, q2⟩
      · exact False.elim q
    · exact False.elim q
theorem pi_zipE {p tpos : Pos} {elts : List Expr} {kk : Nat} (hK : X.K = G.K) (hg : Gl X "zip") (hm : X.mg "zip" = none) (ha : EE G X Wx a va) (hs : isStar a = false) (hb : EE G X Wx b vb) (hs' : isStar b = false) :
    PI X (.Tuple elts kk tpos) (.Call (.Name "zip" p) [a, b] [] pos) (tI G Wx fun τ o => bnd (asW (va τ o)) fun x o1 => bnd (asW (vb τ o1)) fun y o2 => zipR x y o2) :=
  PI.weak (RZ.pi_zipA hg hm (pa_2 ha hs hb hs') (starEach_ok hs X.env) (by rw [starEach_ok hs']; rfl)) fun σ H R0 h => by
    have h' : tI G Wx (fun τ o => bnd (r2 va vb τ o) fun ws o1 => match ws with | [x, y] => zipR x y o1 | _ => .bad) σ H R0 := by
      refine tI_fn ?_ h
      funext τ o
      rw [r2_bnd]
    refine (tI_A h').mono fun vs H1 ⟨ρ, o, ws, b, rws, q⟩ => ?_
    split at q
    · rename_i w u
      obtain ⟨v, v', rfl, r1, r2⟩ := rws_2 rws
      unfold zipR at q
      split at q
      · rename_i hk
        obtain ⟨hk1, hk2⟩ := bools_and hk
        obtain ⟨k, hk1⟩ := kind_of hk1
        have hk2 : kindW o u = some k := by rw [← hk1]; exact (eq_of_beq hk2).symm
        obtain ⟨a, rfl, ⟨xs, hq⟩, at1⟩ := seq_at b r1 hk1
        obtain ⟨a', rfl, ⟨ys, hq'⟩, at2⟩ := seq_at b r2 hk2
        have q2 := q (if k then Itz G.K a a' else RZ.ItzT G.K a a') H1 ⟨ρ, List.prefix_rfl, Stp.refl, b, iok_zip at1 at2⟩
        refine ⟨a, a', xs, ys, rfl, ?_⟩
        rw [hK]
        cases k
        · exact .inr ⟨hq, hq', q2⟩
        · exact .inl ⟨hq, hq', q2⟩
      · exact False.elim q
    · exact False.elim q
end
end Mi
end
section
set_option linter.all false
set_option Elab.async false
set_option maxHeartbeats 2000000
set_option autoImplicit false
namespace Mi
open PySem L2
section
variable {G : Gx} {X : L2.Cx} {Wx : WX} {pos : Pos} {a b c e : Expr} {es : List Expr} {r : Sg → List Ob → R (List W)} {va vb vc : Sg → List Ob → R Val} {cx : Cx}
variable {ρ ρ1 zs : List Addr} {H H1 H2 : Hp} {o o1 : List Ob} {σ : L2.St} {τ : Sg}
/-! ### comprehensions -/
theorem er0 {P : ErI → Prop} (h0 : G.er = none) : ∀ e, G.er = some e → P e := fun e he => by rw [h0] at he; cases he
abbrev gD (G : Gx) (D : Addr) : Gx := gA G (D :: G.av)
theorem Mv.back {D : Addr} : Mv (gD G D) zs H G (D :: zs) H where
  ext := fun _ _ h => h
  ga := rfl
  ic := rfl
  ie := rfl
  nm := rfl
  tp := rfl
  dr := rfl
  lst := fun a u r n1 n2 => ⟨r, fun m => by
    rcases List.mem_cons.mp m with e | m
    · exact n2 (by rw [e]; exact List.mem_cons_self)
    · exact n1 m, fun m => n2 (List.mem_cons_of_mem _ m)⟩
  dct := fun a u _ r n1 n2 => ⟨r, fun m => by
    rcases List.mem_cons.mp m with e | m
    · exact n2 (by rw [e]; exact List.mem_cons_self)
    · exact n1 m, fun m => n2 (List.mem_cons_of_mem _ m)⟩
  tup := fun _ _ _ h => h
  obj := fun a C dx fv r n1 n2 => ⟨r, fun m => by
    rcases List.mem_cons.mp m with e | m
    · exact n2 (by rw [e]; exact List.mem_cons_self)
    · exact n1 m, fun m => n2 (List.mem_cons_of_mem _ m)⟩
theorem Mv.upA {D : Addr} {us us' : List V} (hD : H D = some (.lst us)) : Mv (gD G D) zs H (gD G D) zs (L2.upd H D (.lst us')) where
  ext := fun c f h => by rw [upd_ne (fun z => by rw [z, hD] at h; cases h)]; exact h
  ga := rfl
  ic := rfl
  ie := rfl
  nm := rfl
  tp := rfl
  dr := rfl
  lst := fun a u r n1 n2 => ⟨by
    have ne : a ≠ D := fun z => n2 (by rw [z]; exact List.mem_cons_self)
    rcases r with r | ⟨ob, r⟩
    · exact .inl (by rw [upd_ne ne]; exact r)
    · exact .inr ⟨ob, by rw [upd_ne ne]; exact r⟩, n1, n2⟩
  dct := fun a u _ r n1 n2 => ⟨by
    have ne : a ≠ D := fun z => n2 (by rw [z]; exact List.mem_cons_self)
    rw [upd_ne ne]; exact r, n1, n2⟩
  tup := fun a ob vs h => by
    have ne : a ≠ D := fun z => by rw [z, hD] at h; cases h
    rw [upd_ne ne]; exact h
  obj := fun a C dx fv r n1 n2 => ⟨by
    have ne : a ≠ D := fun z => n2 (by rw [z]; exact List.mem_cons_self)
    rw [upd_ne ne]; exact r, n1, n2⟩
theorem Mv.trans {G1 G2 G3 : Gx} {z1 z2 z3 : List Addr} {h1 h2 h3 : Hp} (m : Mv G1 z1 h1 G2 z2 h2) (n : Mv G2 z2 h2 G3 z3 h3) : Mv G1 z1 h1 G3 z3 h3 where
  ext := fun c f h => n.ext _ _ (m.ext _ _ h)
  ga := n.ga.trans m.ga
  ic := n.ic.trans m.ic
  ie := n.ie.trans m.ie
  nm := n.nm.trans m.nm
  tp := n.tp.trans m.tp
  dr := n.dr.trans m.dr
  lst := fun a u r n1 n2 => let ⟨a1, a2, a3⟩ := m.lst a u r n1 n2; n.lst a u a1 a2 a3
  dct := fun a u c r n1 n2 => let ⟨a1, a2, a3⟩ := m.dct a u c r n1 n2; n.dct a u c a1 a2 a3
  tup := fun a ob vs h => n.tup a ob vs (m.tup a ob vs h)
  obj := fun a C dx fv r n1 n2 => let ⟨a1, a2, a3⟩ := m.obj a C dx fv r n1 n2; n.obj a C dx fv a1 a2 a3
theorem Mv.new {p : Addr} {u : HO} (h : H p = none) (hp : p ∉ zs) : Mv G zs H G zs (L2.upd H p u) where
  ext := fun c f e => by rw [upd_ne (ne_of_none e h)]; exact e
  ga := rfl
  ic := rfl
  ie := rfl
  nm := rfl
  tp := rfl
  dr := rfl
  lst := fun a u r n1 n2 => ⟨by
    rcases r with r | ⟨ob, r⟩
    · exact .inl (keepN h _ _ r)
    · exact .inr ⟨ob, keepN h _ _ r⟩, n1, n2⟩
  dct := fun a u _ r n1 n2 => ⟨keepN h _ _ r, n1, n2⟩
  tup := fun a ob vs r => keepN h _ _ r
  obj := fun a C dx fv r n1 n2 => ⟨keepN h _ _ r, n1, n2⟩
/-- the new list is there, and avoided -/
theorem obs_in {D : Addr} (h0 : G.er = none) (b : Obs G ρ ρ H o) (hD : H D = none) : Obs (gD G D) ρ ρ (L2.upd H D (.lst [])) o := by
  have m : Mv G ρ H (gD G D) ρ (L2.upd H D (.lst [])) := Mv.trans (Mv.toA (A := D :: G.av) fun a m => by
    rcases List.mem_cons.mp m with e | m
    · exact .inr (by rw [e]; exact hD)
    · exact .inl m) (Mv.new hD (b.zm.fresh hD))
  refine b.mv m (fun a _ u h => keepN hD a u h) b.sub (fun a ha => ?_) (fun a ha => ?_) (er0 h0)
  · have q := b.zm a ha
    cases z : H a with
    | none => rw [z] at q; exact q.elim
    | some u => rw [z] at q; rw [keepN hD a u z]; exact q
  · rcases List.mem_cons.mp ha with e | ha
    · rw [e, upd_same]; exact ⟨trivial, b.zm.fresh hD⟩
    · obtain ⟨q, n⟩ := b.av a ha
      refine ⟨?_, n⟩
      cases z : H a with
      | none => rw [z] at q; exact q.elim
      | some u => rw [z] at q; rw [keepN hD a u z]; exact q
theorem sl_in {D : Addr} (h0 : G.er = none) (b : Obs G ρ ρ H o) (hD : H D = none) (l : Sl G ρ ρ H τ σ) : Sl (gD G D) ρ ρ (L2.upd H D (.lst [])) τ σ :=
  Sl.mv (Mv.trans (Mv.toA (A := D :: G.av) fun a m => by
    rcases List.mem_cons.mp m with e | m
    · exact .inr (by rw [e]; exact hD)
    · exact .inl m) (Mv.new hD (b.zm.fresh hD))) (er0 h0) l
theorem obs_out {D : Addr} {vs : List V} (h0 : G.er = none) (nA : D ∉ G.av) (b : Obs (gD G D) ρ ρ H o) (hD : H D = some (.lst vs)) : Obs G ρ (D :: ρ) H o := by
  refine b.mv Mv.back (fun a _ u h => h) (fun a m => List.mem_cons_of_mem _ m) (fun a m => ?_) (fun a m => ?_) (er0 h0)
  · rcases List.mem_cons.mp m with e | m
    · rw [e, hD]; trivial
    · exact b.zm a m
  · obtain ⟨q, n⟩ := b.av a (List.mem_cons_of_mem _ m)
    refine ⟨q, fun z => ?_⟩
    rcases List.mem_cons.mp z with e | z
    · exact nA (by rw [← e]; exact m)
    · exact n z
/-- the new list is put behind -/
theorem obs_upA {D : Addr} {us us' : List V} (h0 : G.er = none) (b : Obs (gD G D) ρ ρ H o) (hD : H D = some (.lst us)) : Obs (gD G D) ρ ρ (L2.upd H D (.lst us')) o := by
  have nD : D ∉ ρ := (b.av D List.mem_cons_self).2
  have mutK : ∀ a, Mut (H a) → Mut (L2.upd H D (.lst us') a) := fun a q => by
    by_cases z : a = D
    · rw [z, upd_same]; trivial
    · rw [upd_ne z]; exact q
  exact b.mv (Mv.upA hD) (fun a m u h => by rw [upd_ne (fun z => nD (by rw [← z]; exact m))]; exact h) b.sub (fun a m => mutK a (b.zm a m)) (fun a m => ⟨mutK a (b.av a m).1, (b.av a m).2⟩) (er0 (G := gD G D) h0)
theorem sl_wipe (h0 : G.er = none) (l : Sl G ρ zs H τ σ) : ∀ ns : List Nat, Sl G ρ zs H (killAll τ ns) (wipe σ ns)
  | [] => l
  | n :: ns => by
    have ih := sl_wipe h0 l ns
    refine ⟨by simp [killAll, wipe, ih.len], fun i w e => ?_, er0 h0⟩
    unfold killAll at e
    unfold wipe
    by_cases hk : n = i
    · subst hk
      by_cases hl : n < (killAll τ ns).length
      · rw [List.getElem?_set_self hl] at e; cases e
      · rw [List.getElem?_eq_none (by simpa using hl)] at e; cases e
    · rw [List.getElem?_set_ne hk] at e ⊢
      exact ih.at_ i w e
theorem wipe_same {σ σ' : L2.St} : ∀ {ns : List Nat} {σ σ' : L2.St}, σ'.length = σ.length → (∀ i, i ∉ ns → σ'[i]? = σ[i]?) → wipe σ' ns = wipe σ ns := by
  intro ns σ σ' hl h
  apply List.ext_getElem?
  intro i
  have look : ∀ (σ : L2.St), (wipe σ ns)[i]? = if i ∈ ns then (if i < σ.length then some none else none) else σ[i]? := by
    intro σ
    clear hl h
    induction ns with
    | nil => simp [wipe]
    | cons n ns ih =>
      unfold wipe
      by_cases hn : n = i
      · subst hn
        simp only [List.mem_cons, true_or, if_true]
        rw [List.getElem?_set_self']
        have : (wipe σ ns).length = σ.length := wipe_length σ ns
        by_cases hl : n < σ.length
        · rw [List.getElem?_eq_getElem (by rw [this]; exact hl)]
          simp [hl]
        · rw [List.getElem?_eq_none (by rw [this]; omega)]
          simp [hl]
      · rw [List.getElem?_set_ne hn, ih]
        simp [Ne.symm hn]
  rw [look, look, hl]
  split
  · rfl
  · exact h i (by assumption)
theorem wipe_idem (σ : L2.St) (ns : List Nat) : wipe (wipe σ ns) ns = wipe σ ns := wipe_same (σ := σ) (σ' := wipe σ ns) (wipe_length σ ns) fun i h => wipe_out h
theorem wipe_kp {σ σ2 : L2.St} {ns ms : List Nat} (k : Kp ms (wipe σ ns) σ2) (h : ∀ i ∈ ms, i ∈ ns) : wipe σ2 ns = wipe σ ns := by
  rw [← wipe_idem σ ns]
  exact wipe_same (σ := wipe σ ns) (σ' := σ2) k.1 fun i hi => k.2 i fun m => hi (h i m)
theorem compG_ne {step : Item → List Ob → R (List W)} {f : Itr} : ∀ {k i : Nat} {acc : List W} {o o1 : List Ob} {e : Ex}, compG step f k i acc o ≠ .exc e o1
  | 0, _, _, _, _, _ => by simp [compG]
  | k + 1, i, acc, o, o1, e => by
    unfold compG
    split
    · split
      · split
        · exact compG_ne
        · intro h; cases h
      · intro h; cases h
    · intro h; cases h
    · intro h; cases h
def W0 : WX := fun _ _ _ _ => False
def stepC (t : T) (own : List Nat) (τ : Sg) (rt : Sg → List Ob → R Bool) (re : Sg → List Ob → R W) : Item → List Ob → R (List W) := fun x o => match bindT t x (killAll τ own) with
  | some τ1 => bnd (rt τ1 o) fun k o2 => if k then bnd (re τ1 o2) fun w o3 => .ok [w] (keep o.length w o3) else .ok [] (o2.take o.length)
  | none => .bad
def compR (t : T) (own : List Nat) (ri : Sg → List Ob → R Itr) (rt : Sg → List Ob → R Bool) (re : Sg → List Ob → R W) (wf : Nat) : Sg → List Ob → R Val := fun τ o => bnd (ri τ o) fun f o1 => bnd (compG (stepC t own τ rt re) f wf 0 [] o1) fun ws o2 => .ok (.fl ws) o2
def gX (G : Gx) (t : T) : TG := fun v σ H Q => ∃ D, gT (gD G D) t v σ H Q
def tTX (G : Gx) (rt : Sg → List Ob → R Bool) : TT := fun σ H Q => ∃ D, tT (gD G D) W0 rt σ H Q
def tWX (G : Gx) (re : Sg → List Ob → R W) : TE := fun σ H Q => ∃ D, tW (gD G D) W0 re σ H Q
theorem lc_ok (h0 : G.er = none) {t : T} {own : List Nat} {ri : Sg → List Ob → R Itr} {rt : Sg → List Ob → R Bool} {re : Sg → List Ob → R W} {wf : Nat} {Q : VK} (h : tE G Wx (compR t own ri rt re wf) σ H Q) (ht : ∀ i ∈ tSlots t, i ∈ own) :
    tLc (tI G Wx ri) (gX G t) (tTX G rt) (tWX G re) own σ H Q := by
  obtain ⟨ρ, τ, o, b, l, h⟩ := h
  refine ⟨ρ, τ, o, b, l, (RP.bnd h).mono fun f o1 q J H1 hI D hD => ?_⟩
  obtain ⟨ρ1, p1, s1, b1, hJ⟩ := hI
  replace l := l.step p1 s1 b.zm
  -- the result
  have q' : RP G Wx ρ H σ (fun val o' => ∀ v H', PostV G ρ H val o' v H' → Q v H') (bnd (compG (stepC t own τ rt re) f wf 0 [] o1) fun ws o2 => .ok (.fl ws) o2) := q
  cases z : compG (stepC t own τ rt re) f wf 0 [] o1 with
  | bad => rw [z] at q'; exact False.elim q'
  | exc e o2 => exact absurd z compG_ne
  | ok wsF oF =>
    rw [z] at q'
    have fin : ∀ v H', PostV G ρ H (.fl wsF) oF v H' → Q v H' := q'
    have nA : D ∉ G.av := fun m => by
      have q := (b1.av D m).1
      rw [hD] at q; exact q
    refine ⟨fun i m H' => ∃ ρ o ws vs, Obs (gD G D) ρ ρ H' o ∧ Sl (gD G D) ρ ρ H' (killAll τ own) (wipe σ own) ∧ ρ1 <+: ρ ∧ Stp ρ1 H1 (D :: ρ) H' ∧ H' D = some (.lst vs) ∧ RWs (gD G D) ρ ρ H' ws vs ∧ compG (stepC t own τ rt re) f m i ws o = .ok wsF oF,
      ⟨wf, ρ1, o1, [], [], obs_in h0 b1 hD, sl_wipe (G := gD G D) h0 (sl_in h0 b1 hD l) own, List.prefix_rfl, Stp.newL hD, upd_same, .nil, z⟩, ?_⟩
    rintro i m H' ⟨ρ2, o, ws, vs, b2, l2, p2, s2, eD, rws, zc⟩
    have nD : D ∉ ρ2 := (b2.av D List.mem_cons_self).2
    have s2' : Stp ρ1 H1 ρ2 H' := s2.sub fun a m => List.mem_cons_of_mem _ m
    cases m with
    | zero => simp [compG] at zc
    | succ m =>
      have hj := hJ (D :: G.av) ρ2 H' o i (fun a ma => by
        rcases List.mem_cons.mp ma with e | ma
        · exact .inr (by rw [e]; exact hD)
        · exact .inl ma) p2 s2' b2
      unfold compG at zc
      cases y : f o i with
      | none => simp only [y] at zc; cases zc
      | some it =>
        cases it with
        | none =>
          simp only [y] at zc hj
          cases zc
          refine .inl ⟨hj, fin _ _ ⟨ρ2, p1.trans p2, D, vs, rfl, nD, eD, s1.trans s2, obs_out h0 nA b2 eD, rws.mv Mv.back⟩⟩
        | some it =>
          simp only [y] at zc hj
          refine .inr ⟨hj.1, fun H' => ∃ m', m' < m + 1 ∧ ∃ ρ o ws vs, Obs (gD G D) ρ ρ H' o ∧ Sl (gD G D) ρ ρ H' (killAll τ own) (wipe σ own) ∧ ρ1 <+: ρ ∧ Stp ρ1 H1 (D :: ρ) H' ∧ H' D = some (.lst vs) ∧ RWs (gD G D) ρ ρ H' ws vs ∧ compG (stepC t own τ rt re) f m' (i + 1) ws o = .ok wsF oF, fun _ h => h, fun x H3 hx => ?_⟩
          obtain ⟨s3, k3, r3⟩ := hj.2 x H3 hx
          have b3 := b2.grow s3 k3
          have l3 := l2.step List.prefix_rfl s3 b2.zm
          have eD3 : H3 D = some (.lst vs) := k3 D _ eD
          have rws3 := rws.step List.prefix_rfl s3 b2.zm
          have s13 : Stp ρ1 H1 (D :: ρ2) H3 := ⟨fun a u h hn => k3 a u (s2.ext a u h hn), s2.zz, fun a u h => by
            obtain ⟨u', e⟩ := s2.gr a u h
            exact ⟨u', k3 a u' e⟩⟩
          cases zs : stepC t own τ rt re it o with
          | bad => rw [zs] at zc; cases zc
          | exc e o3 => rw [zs] at zc; cases zc
          | ok us o3 =>
            rw [zs] at zc
            simp only at zc
            split at zc
            · rename_i hline
              unfold stepC at zs
              cases zb : bindT t it (killAll τ own) with
              | none => rw [zb] at zs; cases zs
              | some τ1 =>
                rw [zb] at zs
                simp only at zs
                refine ⟨D, ρ2, killAll τ own, it, τ1, b3.zm, l3, r3, zb, fun σ2 lσ kσ => ⟨wipe_kp kσ ht, D, ρ2, τ1, o, b3, lσ, ?_⟩⟩
                cases zt : rt τ1 o with
                | bad => rw [zt] at zs; cases zs
                | exc e o4 => rw [zt] at zs; cases zs
                | ok k o4 =>
                  rw [zt] at zs
                  intro H4 hp4
                  obtain ⟨ρ4, p4, s4, b4⟩ := hp4
                  have eD4 : H4 D = some (.lst vs) := s4.ext D _ eD3 nD
                  have sD4 : Stp (D :: ρ2) H3 (D :: ρ4) H4 := ⟨fun a u h hn => s4.ext a u h fun m => hn (List.mem_cons_of_mem _ m), fun a m => by
                    rcases List.mem_cons.mp m with e | m
                    · exact .inl (by rw [e]; exact List.mem_cons_self)
                    · exact (s4.zz a m).imp_left fun m => List.mem_cons_of_mem _ m, s4.gr⟩
                  have olen : o.length = ρ2.length := b3.len.symm
                  cases k with
                  | false =>
                    simp only [bnd, Bool.false_eq_true, if_false, R.ok.injEq] at zs
                    obtain ⟨rfl, rfl⟩ := zs
                    simp only [Bool.false_eq_true, if_false]
                    have e2 : ρ4.take o.length = ρ2 := by rw [olen]; exact pre_take p4
                    have sub : ∀ a ∈ ρ2, a ∈ ρ4 := fun a m => p4.subset m
                    have b5 := b4.takeS o.length
                    rw [e2] at b5
                    have s4' : Stp ρ2 H3 ρ2 H4 := s4.sub sub
                    refine ⟨m, Nat.lt_succ_self m, ρ2, o4.take o.length, ws, vs, b5, l3.step List.prefix_rfl s4' b3.zm, p2, (s13.trans sD4).sub fun a m => ?_, eD4, rws3.step List.prefix_rfl s4' b3.zm, by simpa using zc⟩
                    rcases List.mem_cons.mp m with e | m
                    · rw [e]; exact List.mem_cons_self
                    · exact List.mem_cons_of_mem _ (sub a m)
                  | true =>
                    simp only [bnd, if_true] at zs
                    simp only [if_true]
                    refine ⟨D, ρ4, τ1, o4, b4, lσ.step p4 s4 b3.zm, ?_⟩
                    cases ze : re τ1 o4 with
                    | bad => rw [ze] at zs; cases zs
                    | exc e o5 => rw [ze] at zs; cases zs
                    | ok w o5 =>
                      rw [ze] at zs
                      simp only [R.ok.injEq] at zs
                      obtain ⟨rfl, rfl⟩ := zs
                      intro v H5 hp5
                      obtain ⟨ρ5, p5, s5, b5, rw5⟩ := hp5
                      have nD4 : D ∉ ρ4 := (b4.av D List.mem_cons_self).2
                      have eD5 : H5 D = some (.lst vs) := s5.ext D _ eD4 nD4
                      have hl : vs.length < sizeLine := by
                        rw [← rws.length]
                        have : ws.length + 1 ≤ 16777216 := hline
                        have := sizeLine_eq
                        omega
                      refine ⟨vs, eD5, hl, m, Nat.lt_succ_self m, ?_⟩
                      have s45 := s4.trans s5
                      have p45 := p4.trans p5
                      have sD5 : Stp (D :: ρ4) H4 (D :: ρ5) H5 := ⟨fun a u h hn => s5.ext a u h fun m => hn (List.mem_cons_of_mem _ m), fun a m => by
                        rcases List.mem_cons.mp m with e | m
                        · exact .inl (by rw [e]; exact List.mem_cons_self)
                        · exact (s5.zz a m).imp_left fun m => List.mem_cons_of_mem _ m, s5.gr⟩
                      have sU : Stp (D :: ρ5) H5 (D :: ρ5) (L2.upd H5 D (.lst (vs ++ [v]))) := stp_upd List.mem_cons_self ⟨_, eD5⟩
                      have all := ((s13.trans sD4).trans sD5).trans sU
                      have rws5 : RWs (gD G D) ρ5 ρ5 H5 (ws ++ [w]) (vs ++ [v]) := rws_append (rws3.step p45 s45 b3.zm) (.cons rw5 .nil)
                      have l5 := l3.step p45 s45 b3.zm
                      cases w with
                      | loc j =>
                        exact ⟨ρ5, o5, ws ++ [.loc j], vs ++ [v], obs_upA h0 b5 eD5, Sl.mv (Mv.upA eD5) (er0 (G := gD G D) h0) l5, p2.trans p45, all, upd_same, rws5.mv (Mv.upA eD5), zc⟩
                      | d x =>
                        have e2 : ρ5.take o.length = ρ2 := by rw [olen]; exact pre_take p45
                        have sub : ∀ a ∈ ρ2, a ∈ ρ5 := fun a m => p45.subset m
                        have b6 := b5.takeS o.length
                        rw [e2] at b6
                        have s25 : Stp ρ2 H3 ρ2 H5 := s45.sub sub
                        have rws6 : RWs (gD G D) ρ2 ρ2 H5 (ws ++ [.d x]) (vs ++ [v]) := rws_append (rws3.step List.prefix_rfl s25 b3.zm) (.cons (RD.less sub rw5) .nil)
                        refine ⟨ρ2, o5.take o.length, ws ++ [.d x], vs ++ [v], obs_upA h0 b6 eD5, Sl.mv (Mv.upA eD5) (er0 (G := gD G D) h0) (l3.step List.prefix_rfl s25 b3.zm), p2, all.sub fun a m => ?_, upd_same, rws6.mv (Mv.upA eD5), zc⟩
                        rcases List.mem_cons.mp m with e | m
                        · rw [e]; exact List.mem_cons_self
                        · exact List.mem_cons_of_mem _ (sub a m)
            · cases zc
end
end Mi
end
section
set_option linter.all false
set_option Elab.async false
set_option maxHeartbeats 2000000
set_option autoImplicit false
namespace Mi
open PySem L2
section
variable {G : Gx} {X : L2.Cx} {Wx : WX} {pos : Pos} {a b c e : Expr} {es : List Expr} {r : Sg → List Ob → R (List W)} {va vb vc : Sg → List Ob → R Val} {cx : Cx}
variable {ri : Sg → List Ob → R Itr} {rt : Sg → List Ob → R Bool} {re : Sg → List Ob → R W}
theorem pe_X (h : ∀ D, PE X e (tW (gD G D) W0 re)) : PE X e (tWX G re) := ⟨fun pins s σ H Q I ⟨D, q⟩ => (h D).run pins s σ H Q I q⟩
theorem pt_X (h : ∀ D, PT X e (tT (gD G D) W0 rt)) : PT X e (tTX G rt) := ⟨fun pins s σ H Q I ⟨D, q⟩ => (h D).run pins s σ H Q I q⟩
theorem pg_X {t : T} (h : ∀ D, PG X e (gT (gD G D) t)) : PG X e (gX G t) := ⟨fun pins s σ H v u Q I r ⟨D, q⟩ => (h D).run pins s σ H v u Q I r q⟩
theorem pts_0 : PTs X [] (tTX G fun _ o => .ok true o) := ⟨fun pins s σ H Q I ⟨D, ρ, τ, o, b, l, q⟩ => pts_nil.run pins s σ H Q I (show Q true H from q H ⟨ρ, List.prefix_rfl, Stp.refl, b⟩)⟩
theorem pts_1 (h : PT X c (tTX G rt)) : PTs X [c] (tTX G rt) := pts_one h
variable {elt tg iter : Expr} {ifs : List Expr} {scope : Scope} {own : List (Str × Nat)} {t : T} {wf : Nat}
theorem ee_comp (h0 : G.er = none) (hc : X.calm = true) (hN : X.N.Nodup) (hi : PI X tg iter (tI G Wx ri)) (ok : BlkOk X.N X.env.scope scope own)
    (hg : ∀ (s : Shared) (H : Hp) (C : Addr) (cl : List (Str × Addr)) (fp : List Addr), PG (X.blk s H scope (compEnvC scope cl C X.env) fp) tg (gX G t)) (ht : ∀ (s : Shared) (H : Hp) (C : Addr) (cl : List (Str × Addr)) (fp : List Addr), PTs (X.blk s H scope (compEnvC scope cl C X.env) fp) ifs (tTX G rt))
    (he : ∀ (s : Shared) (H : Hp) (C : Addr) (cl : List (Str × Addr)) (fp : List Addr), PE (X.blk s H scope (compEnvC scope cl C X.env) fp) elt (tWX G re)) (hs : ∀ x, foldedSetIterable iter X.env x = pure x) (hsl : ∀ i ∈ tSlots t, i ∈ own.map (·.2)) :
    EE G X Wx (.ListComp elt [⟨tg, iter, ifs, 0⟩] scope pos) (compR t (own.map (·.2)) ri rt re wf) :=
  EE.of (PE.weak (pe_lc hc hN hi ok hg ht he hs) fun σ H Q h => lc_ok h0 h hsl) rfl
theorem ps_setCompE (h0 : G.er = none) {i : Nat} {y : Str} {py spos : Pos} (hc : X.calm = true) (hN : X.N.Nodup) (hy : X.N[i]? = some y) (hyl : X.env.scope.names.lookup y = some .local)
    (hsw : swapsWith (.ListComp elt [⟨tg, iter, ifs, 0⟩] scope pos) (some (.Name y py)) spos.line X.env = pure true) (hi : PI X tg iter (tI G Wx ri)) (ok : BlkOk X.N X.env.scope scope own)
    (hg : ∀ (s : Shared) (H : Hp) (C : Addr) (cl : List (Str × Addr)) (fp : List Addr), PG (X.blk s H scope (compEnvC scope cl C X.env) fp) tg (gX G t)) (ht : ∀ (s : Shared) (H : Hp) (C : Addr) (cl : List (Str × Addr)) (fp : List Addr), PTs (X.blk s H scope (compEnvC scope cl C X.env) fp) ifs (tTX G rt))
    (he : ∀ (s : Shared) (H : Hp) (C : Addr) (cl : List (Str × Addr)) (fp : List Addr), PE (X.blk s H scope (compEnvC scope cl C X.env) fp) elt (tWX G re)) (hs : ∀ x, foldedSetIterable iter X.env x = pure x) (hsl : ∀ i ∈ tSlots t, i ∈ own.map (·.2)) :
    PS X (.Assign [.Name y py] (.ListComp elt [⟨tg, iter, ifs, 0⟩] scope pos) spos) (tS G Wx fun τ o => bndS (asW (compR t (own.map (·.2)) ri rt re wf τ o)) τ fun w o1 => .next (τ.set i (some w)) o1) ∧
    PS X (.Assign [.Name y py] (.ListComp elt [⟨tg, iter, ifs, 0⟩] scope pos) spos) (tS G Wx fun τ o => bndS (asW (bnd (compR t (own.map (·.2)) ri rt re wf τ o) allocR)) τ fun w o1 => .next (τ.set i (some w)) o1) := by
  have h := ps_setLc hc hN hy hyl hsw hi ok hg ht he hs
  refine ⟨pg_W (x := y) (no_er h0 i) h fun σ H Q q => lc_ok h0 (wf := wf) ?_ hsl, pg_W (x := y) (no_er h0 i) h fun σ H Q q => lc_ok h0 (wf := wf) (tE_alloc ?_) hsl⟩
  · obtain ⟨ρ, τ, o, b, l, q⟩ := q
    refine ⟨ρ, τ, o, b, l, RP.mono (RP.bnd q) fun val o' q v H' hp => ?_⟩
    obtain ⟨w, e, q⟩ := RP.okO q
    exact q v H' (settle_ok e hp)
  · obtain ⟨ρ, τ, o, b, l, q⟩ := q
    refine ⟨ρ, τ, o, b, l, RP.mono (RP.bnd q) fun val o' q v H' hp => ?_⟩
    obtain ⟨w, e, q⟩ := RP.okO q
    exact q v H' (settle_ok e hp)
end
end Mi
end
section
set_option linter.all false
set_option Elab.async false
set_option maxHeartbeats 2000000
set_option autoImplicit false
namespace L2
open PySem PySem.Spec PyProof.Rows
theorem pe_tupRgF {X : Cx} {e : Expr} {te : St → Hp → (Int → Int → Hp → Prop) → Prop} {p pos : Pos} (hc : X.calm = true) (hg : Gl X "tuple") (hm : X.mg "tuple" = none) (he : PRg X e te) (na : starEach [e] X.env = (false, eval e X.env) :: starEach [] X.env := by rfl) :
    PE X (.Call (.Name "tuple" p) [e] [] pos) (fun σ H Q => te σ H fun a b H1 => RgOk a b ∧ ∀ q ob, H1 q = none → ob.dict = none → Q (.ref q) (upd H1 q (.frz ob (.tup (rgV a b))))) := by
  refine ⟨fun pins s σ H Q I h => ?_⟩
  refine Call_ (ld_blt I hg hm boot_tuple (PyProof.Rows.callWith_type1 (args_cons (thn (he pins s σ H _ I h) fun x s1 ⟨r, a, b, t, u, v, H1, ex, hr, I1, ok, q⟩ => args_nil ?_) na) na))
  subst ex
  obtain ⟨b1, b2, b3, b4, b5⟩ := ok
  refine call_tuple_range (n := (b - a).toNat) (I1.ok.hd hc) hr (small_one b1 b2 b3 b4) (rangeSize_nat a b) b5 fun h' tk acc hk hi => ?_
  have I2 : Inv X pins σ H1 { s1 with heap := h', toks := tk } := I1.kept hk
  have hv := vals_rg hi
  have hz : (rgV a b).length ≤ sizeLine := by rw [rgV_length, sizeLine_eq]; omega
  have I3 := Mi.Inv.newT (t' := tk) I2 hv hz
  have ea : acc = acc.toList.toArray := by simp
  rw [ea]
  exact ⟨.ref h'.objs.size, _, I3, rfl, q _ _ (I2.hok.fresh (Nat.le_refl _)) rfl⟩
end L2
namespace Mi
open PySem L2
section
variable {G : Gx} {X : L2.Cx} {Wx : WX} {pos : Pos} {a b c e : Expr} {es : List Expr} {r : Sg → List Ob → R (List W)} {va vb vc : Sg → List Ob → R Val} {cx : Cx}
variable {ρ ρ1 zs : List Addr} {H H1 H2 : Hp} {o o1 : List Ob} {σ : L2.St} {τ : Sg}
theorem rgV_rds (lo hi : Int) : RDs G zs H (rngsD lo (hi - lo).toNat) (rgV lo hi) := by
  unfold rngsD rgV
  have go : ∀ ns : List Nat, RDs G zs H (ns.map fun i => D.int (lo + (i : Nat))) (ns.map fun i => V.int (lo + (i : Nat))) := by
    intro ns
    induction ns with
    | nil => exact .nil
    | cons n ns ih => exact .cons (.int _) ih
  exact go _
theorem collR_ok {b : Nat} {ws : List W} {o o' : List Ob} {val : Val} (e : collR b ws o = .ok val o') : ∃ lo hi, (ws = [.d (.int hi)] ∧ lo = 0 ∨ ws = [.d (.int lo), .d (.int hi)]) ∧ RgOk lo hi ∧ o' = o ∧ ((b = Bi.tup ∧ val = wd (.tup (rngsD lo (hi - lo).toNat))) ∨ (b = Bi.lst ∧ b ≠ Bi.tup ∧ val = flD (rngsD lo (hi - lo).toNat))) := by
  unfold collR at e
  simp only at e
  have go : ∀ (lo : Int) (n : Nat), (if n ≤ line then (if b = Bi.tup then R.ok (wd (.tup (rngsD lo n))) o else if b = Bi.lst then R.ok (flD (rngsD lo n)) o else .bad) else .bad) = R.ok val o' → n ≤ line ∧ o' = o ∧ ((b = Bi.tup ∧ val = wd (.tup (rngsD lo n))) ∨ (b = Bi.lst ∧ b ≠ Bi.tup ∧ val = flD (rngsD lo n))) := by
    intro lo n e
    split at e
    · rename_i hn
      split at e
      · rename_i hb; cases e; exact ⟨hn, rfl, .inl ⟨hb, rfl⟩⟩
      · rename_i hb
        split at e
        · rename_i hb2; cases e; exact ⟨hn, rfl, .inr ⟨hb2, hb, rfl⟩⟩
        · cases e
    · cases e
  split at e
  · rename_i j
    split at e
    · rename_i hj
      obtain ⟨h1, h2⟩ := rngOk_of hj
      obtain ⟨hn, ho, hr⟩ := go 0 j.toNat e
      have hn' : j.toNat ≤ 16777216 := hn
      have e0 : (j - 0).toNat = j.toNat := by simp
      exact ⟨0, j, .inl ⟨rfl, rfl⟩, ⟨by omega, by omega, h1, h2, by omega⟩, ho, by rw [e0]; exact hr⟩
    · cases e
  · rename_i i j
    split at e
    · rename_i hj
      obtain ⟨hj1, hj2⟩ := bools_and hj
      obtain ⟨h1, h2⟩ := rngOk_of hj1
      obtain ⟨h3, h4⟩ := rngOk_of hj2
      obtain ⟨hn, ho, hr⟩ := go i (j - i).toNat e
      have hn' : (j - i).toNat ≤ 16777216 := hn
      exact ⟨i, j, .inr rfl, ⟨h1, h2, h3, h4, by omega⟩, ho, hr⟩
    · cases e
  · cases e
theorem collR_ne {b : Nat} {ws : List W} {o o' : List Ob} {e : Ex} : collR b ws o ≠ .exc e o' := by
  unfold collR
  simp only
  repeat' split
  all_goals (intro h; cases h)
theorem coll_1 {b : Nat} {Q : VK} (h : tE G Wx (fun τ o => bnd (r1 va τ o) fun ws o1 => collR b ws o1) σ H Q) : tRg1 (tW G Wx fun τ o => asW (va τ o)) σ H fun lo hi H1 => RgOk lo hi ∧ ∃ ρ o val, Obs G ρ ρ H1 o ∧ WantV G ρ H1 Q val o ∧ ((b = Bi.tup ∧ val = wd (.tup (rngsD lo (hi - lo).toNat))) ∨ (b = Bi.lst ∧ b ≠ Bi.tup ∧ val = flD (rngsD lo (hi - lo).toNat))) := by
  have h' : tE G Wx (fun τ o => bnd (asW (va τ o)) fun w o1 => collR b [w] o1) σ H Q := by
    have e : (fun (τ : Sg) (o : List Ob) => bnd (r1 va τ o) fun ws o1 => collR b ws o1) = fun τ o => bnd (asW (va τ o)) fun w o1 => collR b [w] o1 := by
      funext τ o; rw [r1_bnd]
    rw [← e]; exact h
  refine (tW_one (f := fun _ w => collR b [w]) h').mono fun v H1 ⟨ρ, o, τ, w, at_, rw', q⟩ => ?_
  cases z : collR b [w] o with
  | ok val o' =>
    rw [z] at q
    obtain ⟨lo, hi, hws, ok, rfl, hr⟩ := collR_ok z
    rcases hws with ⟨e, rfl⟩ | e
    · cases e
      cases rw'
      exact ⟨hi, rfl, ok, ρ, _, val, at_.ob, q, hr⟩
    · cases e
  | exc e o' => exact absurd z collR_ne
  | bad => rw [z] at q; exact q.elim
theorem coll_2 {k : Nat} {Q : VK} (h : tE G Wx (fun τ o => bnd (r2 va vb τ o) fun ws o1 => collR k ws o1) σ H Q) : tRg2 (tW G Wx fun τ o => asW (va τ o)) (tW G Wx fun τ o => asW (vb τ o)) σ H fun lo hi H1 => RgOk lo hi ∧ ∃ ρ o val, Obs G ρ ρ H1 o ∧ WantV G ρ H1 Q val o ∧ ((k = Bi.tup ∧ val = wd (.tup (rngsD lo (hi - lo).toNat))) ∨ (k = Bi.lst ∧ k ≠ Bi.tup ∧ val = flD (rngsD lo (hi - lo).toNat))) := by
  have h' : tE G Wx (fun τ o => bnd (asW (va τ o)) fun w o1 => bnd (asW (vb τ o1)) fun u o2 => collR k [w, u] o2) σ H Q := by
    have e : (fun (τ : Sg) (o : List Ob) => bnd (r2 va vb τ o) fun ws o1 => collR k ws o1) = fun τ o => bnd (asW (va τ o)) fun w o1 => bnd (asW (vb τ o1)) fun u o2 => collR k [w, u] o2 := by
      funext τ o; rw [r2_bnd]
    rw [← e]; exact h
  refine (tW_two (f := fun _ w u => collR k [w, u]) h').mono fun v H1 h1 => h1.mono fun u H2 ⟨ρ, o, τ, w, w', at_, rw', ru, q⟩ => ?_
  cases z : collR k [w, w'] o with
  | ok val o' =>
    rw [z] at q
    obtain ⟨lo, hi, hws, ok, rfl, hr⟩ := collR_ok z
    rcases hws with ⟨e, rfl⟩ | e
    · cases e
    · cases e
      cases rw'
      cases ru
      exact ⟨lo, hi, rfl, rfl, ok, ρ, _, val, at_.ob, q, hr⟩
  | exc e o' => exact absurd z collR_ne
  | bad => rw [z] at q; exact q.elim
theorem coll_L {lo hi : Int} {Q : VK} (h : ∃ ρ o val, Obs G ρ ρ H o ∧ WantV G ρ H Q val o ∧ ((Bi.lst = Bi.tup ∧ val = wd (.tup (rngsD lo (hi - lo).toNat))) ∨ (Bi.lst = Bi.lst ∧ Bi.lst ≠ Bi.tup ∧ val = flD (rngsD lo (hi - lo).toNat)))) : ∀ q, H q = none → Q (.ref q) (upd H q (.lst (rgV lo hi))) := by
  obtain ⟨ρ, o, val, b, w, hr⟩ := h
  rcases hr with ⟨e, _⟩ | ⟨_, _, rfl⟩
  · exact absurd e (by decide)
  · exact fun q hq => w _ _ (post_lst b hq (rgV_rds lo hi))
theorem coll_T {lo hi : Int} {Q : VK} (h : ∃ ρ o val, Obs G ρ ρ H o ∧ WantV G ρ H Q val o ∧ ((Bi.tup = Bi.tup ∧ val = wd (.tup (rngsD lo (hi - lo).toNat))) ∨ (Bi.tup = Bi.lst ∧ Bi.tup ≠ Bi.tup ∧ val = flD (rngsD lo (hi - lo).toNat)))) : ∀ q ob, H q = none → ob.dict = none → Q (.ref q) (upd H q (.frz ob (.tup (rgV lo hi)))) := by
  obtain ⟨ρ, o, val, b, w, hr⟩ := h
  rcases hr with ⟨_, rfl⟩ | ⟨e, _, _⟩
  · exact fun q ob hq hd => w _ _ (post_tup b hq hd (rgV_rds lo hi))
  · exact absurd e (by decide)
variable {p p' pos' : Pos}
theorem ee_lstRg1 (hc : X.calm = true) (hg : Gl X "range") (hm : X.mg "range" = none) (hg' : Gl X "list") (hm' : X.mg "list" = none) (ha : EE G X Wx a va) (hs : isStar a = false) :
    EE G X Wx (.Call (.Name "list" p) [.Call (.Name "range" p') [a] [] pos'] [] pos) (fun τ o => bnd (r1 va τ o) fun ws o1 => collR Bi.lst ws o1) :=
  EE.of (PE.weak (pe_listRg hc hg' hm' (prg_1 hg hm ha.w (starEach_ok hs X.env)) (by rfl)) fun σ H Q h => (coll_1 h).mono fun v H1 ⟨n, e, ok, q⟩ => ⟨n, e, ok, coll_L q⟩) rfl
theorem ee_tupRg1 (hc : X.calm = true) (hg : Gl X "range") (hm : X.mg "range" = none) (hg' : Gl X "tuple") (hm' : X.mg "tuple" = none) (ha : EE G X Wx a va) (hs : isStar a = false) :
    EE G X Wx (.Call (.Name "tuple" p) [.Call (.Name "range" p') [a] [] pos'] [] pos) (fun τ o => bnd (r1 va τ o) fun ws o1 => collR Bi.tup ws o1) :=
  EE.of (PE.weak (pe_tupRgF hc hg' hm' (prg_1 hg hm ha.w (starEach_ok hs X.env)) (by rfl)) fun σ H Q h => (coll_1 h).mono fun v H1 ⟨n, e, ok, q⟩ => ⟨n, e, ok, coll_T q⟩) rfl
theorem ee_lstRg2 (hc : X.calm = true) (hg : Gl X "range") (hm : X.mg "range" = none) (hg' : Gl X "list") (hm' : X.mg "list" = none) (ha : EE G X Wx a va) (hs : isStar a = false) (hb : EE G X Wx b vb) (hs' : isStar b = false) :
    EE G X Wx (.Call (.Name "list" p) [.Call (.Name "range" p') [a, b] [] pos'] [] pos) (fun τ o => bnd (r2 va vb τ o) fun ws o1 => collR Bi.lst ws o1) :=
  EE.of (PE.weak (pe_listRg hc hg' hm' (prg_2 hg hm ha.w hb.w (starEach_ok hs X.env) (starEach_ok hs' X.env) (by rw [starEach_ok hs']; rfl)) (by rfl)) fun σ H Q h => (coll_2 h).mono fun v H1 h1 => h1.mono fun u H2 ⟨i, j, e, e', ok, q⟩ => ⟨i, j, e, e', ok, coll_L q⟩) rfl
theorem ee_tupRg2 (hc : X.calm = true) (hg : Gl X "range") (hm : X.mg "range" = none) (hg' : Gl X "tuple") (hm' : X.mg "tuple" = none) (ha : EE G X Wx a va) (hs : isStar a = false) (hb : EE G X Wx b vb) (hs' : isStar b = false) :
    EE G X Wx (.Call (.Name "tuple" p) [.Call (.Name "range" p') [a, b] [] pos'] [] pos) (fun τ o => bnd (r2 va vb τ o) fun ws o1 => collR Bi.tup ws o1) :=
  EE.of (PE.weak (pe_tupRgF hc hg' hm' (prg_2 hg hm ha.w hb.w (starEach_ok hs X.env) (starEach_ok hs' X.env) (by rw [starEach_ok hs']; rfl)) (by rfl)) fun σ H Q h => (coll_2 h).mono fun v H1 h1 => h1.mono fun u H2 ⟨i, j, e, e', ok, q⟩ => ⟨i, j, e, e', ok, coll_T q⟩) rfl
end
end Mi
end
section
set_option linter.all false
set_option Elab.async false
set_option maxHeartbeats 2000000
set_option autoImplicit false
namespace Mi
open PySem PySem.Spec PyProof.Rows L2
/-! ### room, no repr under way -/
structure RoomG (k : Nat) (A : Around) : Prop where
  room : Room k A
  gd : A.guards = some []
theorem RoomG.mono {j k : Nat} {A : Around} (r : RoomG k A) (h : j ≤ k) : RoomG j A := ⟨r.room.mono h, r.gd⟩
theorem RoomG.deeper {k : Nat} {A : Around} (r : RoomG (k + 1) A) (env : Env) : RoomG k (A.deeper env) := ⟨r.room.deeper env, r.gd⟩
theorem make_guards {A : Around} {C : Addr} {us : List Value} {kw : List (Str × Value)} : (A.under (.builtin "type.__call__" ⟨.ref C :: us, kw⟩)).guards = A.guards := by
  have h : (Code.builtin "type.__call__" ⟨.ref C :: us, kw⟩).guards = [] := by
    unfold Code.guards
    rw [if_neg]
    first
      | decide
      | simp [Code.isGuard, guardIds]
  unfold Around.under
  rw [h]
  show pushGuards [] A.guards = A.guards
  cases A.guards <;> rfl
theorem RoomG.make {k : Nat} {A : Around} (r : RoomG (k + 1) A) (C : Addr) (us : List Value) (kw : List (Str × Value)) : RoomG k (A.under (.builtin "type.__call__" ⟨.ref C :: us, kw⟩)) := ⟨r.room.make C us kw, make_guards.trans r.gd⟩
/-! ### a def keeps its promise -/
structure FnG (P : Program) (w : World) (K : PySem.W.Frag) (mg : Str → Option Value) (base : Heap) (CX : CXT) (k : Nat) (f : Addr) (fd : FuncData) (ps : List Str) (sp : Sp) : Prop where
  len : ∀ vs H Q E, sp vs H Q E → vs.length = ps.length
  run : ∀ (A : Around) (outer : List Env) (s : Shared) (H : Hp) (args : Args) (us : List Value) (vs : List V) (Q : VK) (E : XK), RoomG k A → Env0 P w K mg base A outer s H → BindsTo s fd args (ps.zip us) → Vals vs us → sp vs H Q E →
    codeAny (model P w) A (.call (.ref f) args) (CR CX outer P w H s Q E) s
theorem fn_ofG {CX : CXT} {P : Program} {w : World} {K : PySem.W.Frag} {mg : Str → Option Value} {base : Heap} {k : Nat} {f : Addr} {name qual : Str} {params : Arguments} {body : List Stmt} {scope : Scope} {dV kV doc pm cdv ct oc : Value} {an od : Option Addr}
    {osl : Array (Option Value)} {N ps : List Str} {sp : Sp} (lk : K.lookup f = some ⟨oc, od, .func (PySem.W.fnOf name qual params body scope dV kV doc pm an cdv ct), osl⟩) (hcd : PySem.W.codeIn K cdv qual = true) (S : FnScope N ps scope)
    (len : ∀ vs H Q E, sp vs H Q E → vs.length = ps.length)
    (hbody : ∀ (A : Around) (outer : List Env) (s : Shared) (H : Hp) (vs : List V) (Q : VK) (E : XK), RoomG k (A.deeper (envOfC qual scope s.heap.objs.size f cdv)) → sp vs H Q E →
      ∃ t, PSs (cxOf CX P w K mg base N qual scope f cdv A outer s H E) body t ∧ t { nx := fun _ H' => Q .non H', rt := Q } (start N vs) H) :
    FnG P w K mg base CX (k + 1) f (PySem.W.fnOf name qual params body scope dV kV doc pm an cdv ct) ps sp := by
  refine ⟨len, fun A outer s H args us vs Q E hr e0 hb r hsp => ?_⟩
  have hl := len _ _ _ _ hsp
  have KX : K.In s.heap := e0.mod.kin.keeps fun b o e => (e0.bs b o e).1
  have lim : s.heap.NoLimit := e0.mod.nolimit.keeps fun b o e => (e0.bs b o e).1
  have hkind : ∀ y ∈ ps.zip us, scope.names.lookup y.1 = some .local ∨ (scope.names.lookup y.1 = some .cell ∧ ((cellsFrom (s.heap.objs.size + 1) scope.names []).lookup y.1).isSome = true) := fun ⟨n, v⟩ hy => by
    rcases S.par n (List.of_mem_zip hy).1 with q | q
    · exact .inl q
    · exact .inr ⟨q, PySem.W.cellsFrom_some _ _ _ (.inl q)⟩
  refine codeAny_call_function hr.room.depth (KX _ _ lk) rfl S.co S.gen rfl (PySem.W.codeRec_of KX hcd) (hb _ _ _ _ ?_)
  refine wpAny_newFunctionEnv_cells S.kind hkind fun env he s1 x => ?_
  subst he
  refine ⟨lim.keeps x.toInCall.keep, codeAny_func ?_⟩
  obtain ⟨t, ht, hq⟩ := hbody A outer s H vs Q E (hr.deeper _) hsp
  have I : L2.Inv (cxOf CX P w K mg base N qual scope f cdv A outer s H E) [] (start N vs) H s1 := inv_start S hr.room.hd e0 hl r x
  refine wpAny_mono (ht.run [] s1 (start N vs) H _ I hq) (fun fl s' hs => ?_) fun e s' hs => hs
  have fin : ∀ {σ' : L2.St} {H' : Hp} {v : V} {u : Value}, L2.Inv (cxOf CX P w K mg base N qual scope f cdv A outer s H E) [] σ' H' s' → RelV v u → Q v H' → CE outer P w H s Q u s' :=
    fun {σ' H' v u} J rv q => ⟨v, H', J.os, J.bare, J.base, J.hok, rv, q⟩
  cases fl with
  | ret u =>
    obtain ⟨v, σ', H', J, rv, q⟩ := hs
    exact fin J rv q
  | next =>
    obtain ⟨σ', H', J, q⟩ := hs
    exact fin (v := V.non) (u := Value.none) J rfl q
  | brk =>
    obtain ⟨_, _, _, q⟩ := hs
    exact False.elim q
  | cont =>
    obtain ⟨_, _, _, q⟩ := hs
    exact False.elim q
section
variable {X : L2.Cx} {CX : CXT} {k : Nat} {f C : Addr} {fd : FuncData} {ps : List Str} {sp : Sp} {E : L2.St → XK} {x m : Str} {p pos apos : Pos} {e o : Expr} {es : List Expr} {ta : TE} {t : TA}
theorem run_fnG {pins : List (Addr × Obj)} {σ : L2.St} {H : Hp} {s : Shared} {Q : VK} {us : List Value} {vs : List V} (F : FnG X.prog X.w X.K X.mg X.base CX k f fd ps sp) (hr : RoomG k X.A) (hb : Binds X.K fd ps []) (hx : PassesAt CX X σ (E σ))
    (I : L2.Inv X pins σ H s) (r : Vals vs us) (h : sp vs H Q (E σ)) : wpAny (model X.prog X.w) X.A (call (.ref f) us) (EP X pins σ Q) X.xe s := by
  have hl : us.length = ps.length := by rw [← r.length]; exact F.len _ _ _ _ h
  have b := hb s us I.kIn (by rw [List.append_nil]; exact hl)
  rw [List.append_nil] at b
  refine wpAny_call (codeAny_mono (F.run X.A X.stack s H ⟨us, []⟩ us vs Q (E σ) hr I.env0 b r h) fun r s' hq => ?_)
  cases r with
  | error e => exact hx pins H s e s' I hq
  | ok fl =>
    cases fl with
    | ret u => exact I.after hq
    | next => exact False.elim hq
    | brk => exact False.elim hq
    | cont => exact False.elim hq
theorem back_any {env : Env} (pos : Pos) (h : es.all (fun e => !isStar e) = true) : (backTo pos (starEach es env)).any (·.1) = false := by
  have hs2 : (starEach es env).any (·.1) = false := starEach_all h
  have go : ∀ l : List (Bool × Sem Value), (backTo pos l).any (·.1) = l.any (·.1) := by
    intro l
    induction l with
    | nil => rfl
    | cons q l ih =>
      obtain ⟨k, m⟩ := q
      show (backTo pos ((k, m) :: l)).any (·.1) = _
      first
        | (rw [List.any_cons, ← ih]; rfl)
        | (unfold backTo; simp)
  rw [go]; exact hs2
theorem pe_callG0 (F : FnG X.prog X.w X.K X.mg X.base CX k f fd ps sp) (hr : RoomG k X.A) (hg : Gl X x) (hm : X.mg x = some (.ref f)) (hk : PySem.W.keepIn X.K (.ref f) = true) (hb : Binds X.K fd ps []) (hx : ∀ σ, PassesAt CX X σ (E σ))
    (hdb : (x == ("__debug__" : Str)) = false) : PE X (.Call (.Name x p) [] [] pos) (tCallS sp E tNil) := by
  refine ⟨fun pins s σ H Q I h => ?_⟩
  refine wpAny_Call_Name_kw (ld_glob I hg hm ?_ hdb)
  exact PySem.W.callWith_K0 I.kIn hk (run_fnG (us := []) F hr hb (hx σ) I .nil h)
theorem pe_callG (F : FnG X.prog X.w X.K X.mg X.base CX k f fd ps sp) (hr : RoomG k X.A) (hg : Gl X x) (hm : X.mg x = some (.ref f)) (hk : PySem.W.keepIn X.K (.ref f) = true) (hb : Binds X.K fd ps []) (hx : ∀ σ, PassesAt CX X σ (E σ))
    (ha : PA X (e :: es) t) (hs : (e :: es).all (fun e => !isStar e) = true) (hdb : (x == ("__debug__" : Str)) = false) :
    PE X (.Call (.Name x p) (e :: es) [] pos) (tCallS sp E t) := by
  refine ⟨fun pins s σ H Q I h => ?_⟩
  refine wpAny_Call_Name_kw (ld_glob I hg hm ?_ hdb)
  rw [List.all_cons] at hs
  obtain ⟨hs1, hs2⟩ := Bool.and_eq_true_iff.mp hs
  have hs1 : isStar e = false := by simpa using hs1
  refine PySem.W.callWith_K (h₀ := X.base) I.ok.mod.kin hk (thn (ha.run pos pins s σ H _ I h) fun us s1 ⟨vs, H1, I1, r, q⟩ => ⟨I1.kIn, ?_⟩) (starEach_ok hs1 X.env) (back_any pos hs2)
  exact run_fnG F hr hb (hx σ) I1 r q
end
/-! ### the promise of a def, by the evaluator -/
/-- what a call gives and lets out -/
def RC (G : Gx) (ρ : List Addr) (H : Hp) (Q : VK) (E : XK) : R Val → Prop
  | .ok val o' => ∀ v H', PostV G ρ H val o' v H' → Q v H'
  | .exc e o' => ∀ cls d H', PostX G ρ H e o' cls d H' → E cls d H'
  | .bad => False
def spM (G : Gx) (cal : List W → List Ob → R Val) (n : Nat) : Sp := fun vs H Q E => vs.length = n ∧ ∃ A ρ o ws, Obs (gA G A) ρ ρ H o ∧ RWs (gA G A) ρ ρ H ws vs ∧ RC (gA G A) ρ H Q E (cal ws o)
section
variable {G : Gx} {X : L2.Cx} {Wx : WX} {pos p : Pos} {e : Expr} {es : List Expr} {r : Sg → List Ob → R (List W)} {cal : List W → List Ob → R Val} {k n : Nat} {f : Addr} {fd : FuncData} {ps : List Str} {x : Str}
theorem call_sp {σ : L2.St} {H : Hp} {Q : VK} {vs : List V} (hn : ∀ ws o, cal ws o ≠ .bad → ws.length = n) (h : ∃ ρ o τ ws, At G σ ρ H o τ ∧ RWs G ρ ρ H ws vs ∧ RP G Wx ρ H σ (WantV G ρ H Q) (cal ws o)) : spM G cal n vs H Q (WE Wx σ) := by
  obtain ⟨ρ, o, τ, ws, at_, rws, q⟩ := h
  have hl : ws.length = n := hn ws o fun z => by rw [z] at q; exact q
  refine ⟨by rw [← rws.length]; exact hl, G.av, ρ, o, ws, at_.ob, rws, ?_⟩
  cases z : cal ws o with
  | ok val o' => rw [z] at q; exact q
  | exc e o' => rw [z] at q; exact q
  | bad => rw [z] at q; exact q
theorem ee_call0 (F : FnG X.prog X.w X.K X.mg X.base (L2.CX X.prog X.w) k f fd ps (spM G cal n)) (hn : ∀ ws o, cal ws o ≠ .bad → ws.length = n) (hr : RoomG k X.A) (hg : Gl X x) (hm : X.mg x = some (.ref f)) (hk : PySem.W.keepIn X.K (.ref f) = true) (hb : Binds X.K fd ps [])
    (tk : Takes X Wx) (hdb : (x == ("__debug__" : Str)) = false) : EE G X Wx (.Call (.Name x p) [] [] pos) (fun τ o => bnd ((fun _ o => .ok [] o : Sg → List Ob → R (List W)) τ o) fun ws o1 => cal ws o1) :=
  EE.of (PE.weak (pe_callG0 F hr hg hm hk hb (fun σ => passAt tk σ) hdb) fun σ H Q h => call_sp hn (tA_nil (tA_one (f := fun _ ws o => cal ws o) h))) rfl
theorem ee_call1 (F : FnG X.prog X.w X.K X.mg X.base (L2.CX X.prog X.w) k f fd ps (spM G cal n)) (hn : ∀ ws o, cal ws o ≠ .bad → ws.length = n) (hr : RoomG k X.A) (hg : Gl X x) (hm : X.mg x = some (.ref f)) (hk : PySem.W.keepIn X.K (.ref f) = true) (hb : Binds X.K fd ps [])
    (tk : Takes X Wx) (ha : PA X (e :: es) (tA G Wx r)) (hs : (e :: es).all (fun e => !isStar e) = true) (hdb : (x == ("__debug__" : Str)) = false) : EE G X Wx (.Call (.Name x p) (e :: es) [] pos) (fun τ o => bnd (r τ o) fun ws o1 => cal ws o1) :=
  EE.of (PE.weak (pe_callG F hr hg hm hk hb (fun σ => passAt tk σ) ha hs hdb) fun σ H Q h => (tA_one (f := fun _ ws o => cal ws o) h).mono fun vs H1 q => call_sp hn q) rfl
end
end Mi
end
section
set_option linter.all false
set_option Elab.async false
set_option maxHeartbeats 2000000
set_option autoImplicit false
namespace Mi
open PySem L2
section
variable {G : Gx} {ρ ρ1 zs zs' : List Addr} {H H1 H2 : Hp} {o o1 : List Ob} {σ : L2.St} {τ : Sg}
/-! ### what a call hands back -/
structure FzOk (ρ zs' : List Addr) (n bound : Nat) : Prop where
  ap : ∀ (j : Nat) (b : Addr), ρ[j]? = some b → n ≤ j → j < bound → b ∉ zs'
mutual
theorem freeze_ok {n bound : Nat} (b : Obs G ρ zs H o) (hs : ∀ c ∈ zs', c ∈ zs) (f : FzOk ρ zs' n bound) : ∀ (m : Nat) {w : W} {x : D} {v : V}, freeze n o m w = some x → locOk bound w → RW G ρ zs H w v → RD G zs' H x v
  | m, .d y, x, v, e, _, r => by
    have e : some y = some x := by
      unfold freeze at e
      exact e
    cases e
    exact RD.less hs r
  | 0, .loc k, x, v, e, _, r => by unfold freeze at e; cases e
  | m + 1, .loc k, x, v, e, l, r => by
    unfold freeze at e
    split at e
    · cases e
    · rename_i hk
      obtain ⟨a, ea, rfl⟩ := r
      cases q : o[k]? with
      | none => simp [q] at e
      | some ob =>
        have rb := b.ob k ob a q ea
        cases ob with
        | lst ws =>
          simp only [q] at e
          obtain ⟨vs, ha, rvs, hl⟩ := rb
          cases z : freezes n o m ws with
          | none => simp [z] at e
          | some xs =>
            simp only [z, Option.some.injEq] at e
            subst e
            have lk : k < bound := l
            refine .lst (.inl ha) ⟨f.ap k a ea (Nat.le_of_not_lt hk) lk, fun m => (b.av a m).2 (b.sub a (mem_of_get ea))⟩ ?_
            exact freezes_ok b hs f m z (fun w m => (hl w m).mono (Nat.le_of_lt lk)) rvs
        | _ => first | exact rb.elim | (simp [q] at e)
theorem freezes_ok {n bound : Nat} (b : Obs G ρ zs H o) (hs : ∀ c ∈ zs', c ∈ zs) (f : FzOk ρ zs' n bound) : ∀ (m : Nat) {ws : List W} {xs : List D} {vs : List V}, freezes n o m ws = some xs → (∀ w ∈ ws, locOk bound w) → RWs G ρ zs H ws vs → RDs G zs' H xs vs
  | _, [], _, _, e, _, .nil => by unfold freezes at e; cases e; exact .nil
  | m, w :: ws, xs, _, e, hl, .cons h r => by
    unfold freezes at e
    cases z : freeze n o m w with
    | none => simp [z] at e
    | some x =>
      cases z2 : freezes n o m ws with
      | none => simp [z, z2] at e
      | some ys =>
        simp only [z, z2, Option.some.injEq] at e
        subst e
        exact .cons (freeze_ok b hs f m z (hl w (by simp)) h) (freezes_ok b hs f m z2 (fun w m => hl w (by simp [m])) r)
end
theorem nodup_ix {l : List Addr} (h : l.Nodup) {i j : Nat} {a : Addr} (hi : l[i]? = some a) (hj : l[j]? = some a) : i = j := by
  obtain ⟨h1, e1⟩ := List.getElem?_eq_some_iff.mp hi
  obtain ⟨h2, e2⟩ := List.getElem?_eq_some_iff.mp hj
  exact (List.getElem_inj h).mp (e1.trans e2.symm)
theorem mem_take {l : List Addr} {n : Nat} {a : Addr} (h : a ∈ l.take n) : ∃ i, i < n ∧ l[i]? = some a := by
  obtain ⟨i, hi, e⟩ := List.getElem_of_mem h
  obtain ⟨h1, h2⟩ := take_get (n := n) (l := l) (k := i) (x := a) (by rw [List.getElem?_eq_getElem hi, e])
  exact ⟨i, h1, h2⟩
theorem finish_ok {n : Nat} {val val' : Val} {o2 : List Ob} {v : V} (hn : n = ρ.length) (h : PostV G ρ H val o v H1) (e : finish n val o = .ok val' o2) : PostV G ρ H val' o2 v H1 := by
  subst hn
  obtain ⟨ρ', p, h⟩ := h
  have et : ρ'.take ρ.length = ρ := pre_take p
  have sub : ∀ a ∈ ρ, a ∈ ρ' := fun a m => p.subset m
  cases val with
  | w w =>
    obtain ⟨s, b, r⟩ := h
    have b2 := b.takeS ρ.length
    rw [et] at b2
    cases w with
    | d x =>
      simp only [finish, R.ok.injEq] at e
      obtain ⟨rfl, rfl⟩ := e
      exact ⟨ρ, List.prefix_rfl, s.sub sub, b2, RD.less sub r⟩
    | loc k =>
      unfold finish at e
      simp only at e
      split at e
      · rename_i hk
        simp only [R.ok.injEq] at e
        obtain ⟨rfl, rfl⟩ := e
        refine ⟨ρ, List.prefix_rfl, s.sub sub, b2, ?_⟩
        obtain ⟨a, ea, rfl⟩ := r
        exact ⟨a, by rw [← et]; exact get_take hk ea, rfl⟩
      · rename_i hk
        split at e
        · rename_i xs hx
          simp only [R.ok.injEq] at e
          obtain ⟨rfl, rfl⟩ := e
          obtain ⟨a, ea, rfl⟩ := r
          have hx' := hx
          unfold freeze at hx
          rw [if_neg hk] at hx
          cases q : o[k]? with
          | none => simp [q] at hx
          | some ob =>
            have rb := b.ob k ob a q ea
            cases ob with
            | lst ws =>
              simp only [q] at hx
              obtain ⟨vs, ha, rvs, hl⟩ := rb
              cases z : freezes ρ.length o 59 ws with
              | none => simp [z] at hx
              | some ys =>
                simp only [z, Option.some.injEq, D.lst.injEq] at hx
                subst hx
                have hs : ∀ c ∈ a :: ρ, c ∈ ρ' := fun c m => by
                  rcases List.mem_cons.mp m with e | m
                  · rw [e]; exact mem_of_get ea
                  · exact sub c m
                have na : a ∉ ρ := fun m => by
                  rw [← et] at m
                  obtain ⟨i, hi, e⟩ := mem_take m
                  have := nodup_ix b.nd ea e
                  omega
                have f : FzOk ρ' (a :: ρ) ρ.length k := ⟨fun j c ej hj hjk m => by
                  rcases List.mem_cons.mp m with e | m
                  · subst e
                    have := nodup_ix b.nd ea ej
                    omega
                  · rw [← et] at m
                    obtain ⟨i, hi, e⟩ := mem_take m
                    have := nodup_ix b.nd ej e
                    omega⟩
                refine ⟨ρ, List.prefix_rfl, a, vs, rfl, na, ha, s.sub hs, ?_, rws_of (freezes_ok b hs f 59 z hl rvs)⟩
                have b3 := b.take ρ.length
                rw [et] at b3
                exact b3.less hs fun c m => List.mem_cons_of_mem _ m
            | _ => first | exact rb.elim | (simp [q] at hx)
        · cases e
  | fl ws =>
    obtain ⟨a, vs, rfl, na, ha, s, b, r⟩ := h
    unfold finish at e
    simp only at e
    cases z : freezes ρ.length o 60 ws with
    | none => simp [z] at e
    | some xs =>
      simp only [z, R.ok.injEq] at e
      obtain ⟨rfl, rfl⟩ := e
      have hs : ∀ c ∈ a :: ρ, c ∈ a :: ρ' := fun c m => by
        rcases List.mem_cons.mp m with e | m
        · rw [e]; exact List.mem_cons_self
        · exact List.mem_cons_of_mem _ (sub c m)
      have f : FzOk ρ' (a :: ρ) ρ.length ρ'.length := ⟨fun j c ej hj hjk m => by
        rcases List.mem_cons.mp m with e | m
        · subst e; exact na (mem_of_get ej)
        · rw [← et] at m
          obtain ⟨i, hi, e⟩ := mem_take m
          have := nodup_ix b.nd ej e
          omega⟩
      have hl : ∀ w ∈ ws, locOk ρ'.length w := by
        have go : ∀ {ws : List W} {vs : List V}, RWs G ρ' (a :: ρ') H1 ws vs → ∀ w ∈ ws, locOk ρ'.length w := by
          intro ws vs rr
          induction rr with
          | nil => intro w m; cases m
          | cons h t ih =>
            intro w m
            rcases List.mem_cons.mp m with e | m
            · subst e
              cases w with
              | d _ => trivial
              | loc j =>
                obtain ⟨c, hc, _⟩ := h
                exact (List.getElem?_eq_some_iff.mp hc).1
            · exact ih w m
        exact go r
      have b3 := b.take ρ.length
      rw [et] at b3
      exact ⟨ρ, List.prefix_rfl, a, vs, rfl, fun m => na (sub a m), ha, s.sub hs, b3.less hs fun c m => List.mem_cons_of_mem _ m, rws_of (freezes_ok b hs f 60 z hl r)⟩
/-! ### a body run -/
theorem start_sl (h0 : G.er = none) {N : List Str} {vs : List V} {ws : List W} {ns : Nat} (hN : N.length = ns) (r : RWs G ρ zs H ws vs) : Sl G ρ zs H (ws.map some ++ List.replicate (ns - ws.length) none) (L2.start N vs) := by
  have hl := r.length
  refine ⟨by unfold L2.start; simp [hl, hN], fun i w e => ?_, er0 h0⟩
  by_cases hi : i < ws.length
  · rw [List.getElem?_append_left (by simpa using hi), List.getElem?_map] at e
    cases z : ws[i]? with
    | none => simp [z] at e
    | some w' =>
      simp [z] at e
      subst e
      obtain ⟨v, e1, e2⟩ := rws_get r z
      refine ⟨v, ?_, e2⟩
      unfold L2.start
      rw [List.getElem?_append_left (by rw [List.length_map, ← hl]; exact hi), List.getElem?_map, e1]
      rfl
  · rw [List.getElem?_append_right (by simpa using hi), List.getElem?_replicate] at e
    split at e <;> cases e
theorem body_sp (h0 : G.er = none) {Q : VK} {E : XK} {T : Tab} {wf d fid : Nat} {g : Fn} {t : Option Thk} {ws : List W} {vs : List V} {N : List Str} (hf : T.fn fid = some g) (hnt : T.nat fid = none) (hN : N.length = g.ns) (b : Obs G ρ ρ H o) (r : RWs G ρ ρ H ws vs) (h : RC G ρ H Q E (run T wf (d + 1) fid t ws o)) :
    tS G (fun cls d _ H => E cls d H) (evB ⟨T, run T wf d, wf, t, none⟩ g.body) { nx := fun _ H' => Q .non H', rt := Q } (L2.start N vs) H := by
  unfold run at h
  rw [hnt, hf] at h
  simp only at h
  split at h
  · rename_i hl
    have hl2 := b.len
    refine ⟨ρ, _, o, b, start_sl h0 (ns := g.ns) hN r, ?_⟩
    rw [hl]
    have sub : ∀ {ρ' : List Addr}, ρ <+: ρ' → ∀ a ∈ ρ, a ∈ ρ' := fun p a m => p.subset m
    have dn : ∀ {ρ' : List Addr} {o' : List Ob} {H' : Hp}, ρ <+: ρ' → Obs G ρ' ρ' H' o' → Obs G ρ ρ H' (o'.take o.length) := by
      intro ρ' o' H' p b'
      have b2 := b'.takeS o.length
      rw [← hl2, pre_take p] at b2
      rw [← hl2]
      exact b2
    cases z : evB ⟨T, run T wf d, wf, t, none⟩ g.body (ws.map some ++ List.replicate (g.ns - g.np) none) o with
    | next τ' o' =>
      rw [z] at h
      intro σ' H' ⟨ρ', p, s, b', l⟩
      exact h _ H' ⟨ρ, List.prefix_rfl, s.sub (sub p), dn p b', .non⟩
    | ret v o' =>
      rw [z] at h
      intro u H' hp
      simp only at h
      cases y : finish o.length v o' with
      | ok val o2 => rw [y] at h; exact h u H' (finish_ok hl2.symm hp y)
      | exc e o2 =>
        exfalso
        unfold finish at y
        split at y
        · cases y
        · split at y
          · cases y
          · split at y <;> cases y
        · split at y <;> cases y
      | bad => rw [y] at h; exact h.elim
    | exc e τ' o' =>
      rw [z] at h
      intro cls d' σ' H' ⟨ρ', p, s, b', l, x⟩
      exact h cls d' H' ⟨ρ, List.prefix_rfl, s.sub (sub p), dn p b', x.less (sub p)⟩
    | brk _ _ => rw [z] at h; exact h.elim
    | cont _ _ => rw [z] at h; exact h.elim
    | bad => rw [z] at h; exact h.elim
  · exact h.elim
end
end Mi
end
section
set_option linter.all false
set_option Elab.async false
set_option maxHeartbeats 2000000
set_option maxRecDepth 100000
set_option autoImplicit false
/-! an own error whose __init__ says super().__init__(text), its base's base ValueError -/
namespace PySem
namespace SVX
/-! ### ValueError.__init__ bound to an instance -/
abbrev bw (x : Addr) : Obj := { cls := .type "method-wrapper", dict := none, data := .fields #[.builtin "ValueError.__init__", .ref x], slots := #[] }
theorem type_vi : typeOf (.builtin "ValueError.__init__") = pure (.type "wrapper_descriptor") := by show builtinType _ = _; rw [builtinType_eq_fast]; kernel_rfl
theorem nac : (kfb_private% "nameAndClass") (Value.builtin "ValueError.__init__") = (pure (("__init__" : Str), Value.type "ValueError") : Sem (Str × Value)) := by kernel_rfl
section
open PySem.W
variable {prog : Program} {w : World} {M : Model} {A : Around} {E : Value → Shared → Prop} {h : Heap} {g : Array GenState} {d : Drawn} {t : Nat} {os : OsState}
theorem run_wd {x C : Addr} {P : Fin → Shared → Prop} (hin : W.Looks M h (isInstance (.ref x) (.type "ValueError")) true) (hq : P (.done (.ret (.ref h.objs.size))) ⟨h.push (bw x), g, d, t, os⟩) :
    wpAny M A (Builtin.«wrapper_descriptor.__get__» ⟨[.builtin "ValueError.__init__", .ref x, .ref C], []⟩) P E ⟨h, g, d, t, os⟩ := by
  unfold Builtin.«wrapper_descriptor.__get__»
  refine wpAny_bind (wpAny_of_eq (a := (.builtin "ValueError.__init__", some (.ref x), some (.ref C))) (by first | rfl | kernel_rfl) ?_)
  show wpAny M A ((kfb_private% "checkInstance") (.builtin "ValueError.__init__") (.ref x) >>= fun _ => newFields "method-wrapper" [.builtin "ValueError.__init__", .ref x] >>= fun r => ret r) P E _
  refine wpAny_bind ?_
  show wpAny M A ((kfb_private% "nameAndClass") (.builtin "ValueError.__init__") >>= _) _ E _
  refine wpAny_bind (wpAny_of_eq nac ?_)
  show wpAny M A (isInstance (.ref x) (.type "ValueError") >>= _) _ E _
  refine wpAny_bind (hin.at ?_)
  refine KFB.if_not rfl ?_
  refine wpAny_pure ?_
  exact wpAny_bind (wpAny_newObj_type (wpAny_pure hq))
theorem super_ga {so D x C : Addr} {l₀ l : List Value} {K : Frag} {name : Str} {tk : Tok} {Q : Fin → Shared → Prop}
    (hso : h.get? so = some { cls := .type "super", dict := none, data := .fields #[.ref D, .ref x, .ref C], slots := #[] }) (hno : W.Looks (model prog w) h (opaqueClassAbove (.ref C)) none)
    (hC : W.Looks (model prog w) h (mroOf (.ref C)) l₀) (hl : (l₀.dropWhile (· != .ref D)).drop 1 = l) (X : K.In h)
    (hf : alongIn K name l = some (some (.builtin "ValueError.__init__"))) (hxC : x ≠ C) (hn : (name == ("__class__" : Str)) = false) (hin : W.Looks (model prog w) h (isInstance (.ref x) (.type "ValueError")) true)
    (hq : Q (.done (.ret (.ref h.objs.size))) ⟨h.push (bw x), g, d, t, os⟩) :
    wpAny (model prog w) A (Builtin.«super.__getattribute__» ⟨[.ref so, .str name tk], []⟩) Q E ⟨h, g, d, t, os⟩ := by
  have hlk := ESX.slot_wd.lookup
  have hne : (Value.ref x == Value.ref C) = false := by simp [hxC]
  have hTf := type_vi
  have hTi : Shared.TypeIs ⟨h, g, d, t, os⟩ (.builtin "ValueError.__init__") "wrapper_descriptor" := type_vi
  have hdt : ({ cls := .type "super", dict := none, data := .fields #[.ref D, .ref x, .ref C], slots := #[] } : Obj).data = .fields #[.ref D, .ref x, .ref C] := rfl
  have f0 : (#[.ref D, .ref x, .ref C] : Array Value)[0]? = some (.ref D) := rfl
  have f1 : (#[.ref D, .ref x, .ref C] : Array Value)[1]? = some (.ref x) := rfl
  have f2 : (#[.ref D, .ref x, .ref C] : Array Value)[2]? = some (.ref C) := rfl
  unfold Builtin.«super.__getattribute__»
  repeat (first
    | (with_reducible refine wpAny_field hso hdt f0 ?_) | (with_reducible refine wpAny_field hso hdt f1 ?_) | (with_reducible refine wpAny_field hso hdt f2 ?_)
    | (with_reducible refine ks_wpAny_notOpaque hno ?_)
    | (with_reducible refine Looks.at hC ?_; rw [hl])
    | (refine ks_forIn_along X (fun _ _ => rfl) rfl ?_ hf)
    | (with_reducible refine wpAny_call_entry ESX.slot_wd hTi ESX.entry_wd ?_ (ESX.args_wd _ _ _))
    | (with_reducible refine run_wd hin ?_)
    | (with_reducible refine ⟨_, rfl, ?_⟩)
    | (simp only [hn, hne, Bool.or_false, Bool.false_eq_true, if_false])
    | wp_step
    | dsimp only)
  all_goals exact hq
theorem getMethod_super {so D x C : Addr} {l₀ l : List Value} {K : Frag} {name : Str} {pl : Sem Bool} {Q : Value × List Value → Shared → Prop}
    (hso : h.get? so = some { cls := .type "super", dict := none, data := .fields #[.ref D, .ref x, .ref C], slots := #[] }) (hno : W.Looks (model prog w) h (opaqueClassAbove (.ref C)) none)
    (hC : W.Looks (model prog w) h (mroOf (.ref C)) l₀) (hl : (l₀.dropWhile (· != .ref D)).drop 1 = l) (X : K.In h)
    (hf : alongIn K name l = some (some (.builtin "ValueError.__init__"))) (hxC : x ≠ C) (hn : (name == ("__class__" : Str)) = false) (hin : W.Looks (model prog w) h (isInstance (.ref x) (.type "ValueError")) true)
    (hq : Q (.ref h.objs.size, []) ⟨h.push (bw x), g, d, t + 1, os⟩) :
    wpAny (model prog w) A (getMethod (.ref so) name pl) Q E ⟨h, g, d, t, os⟩ := by
  have hlk := F.ks_slot_super_ga.lookup
  have hcan := F.ks_canon_super_ga
  have hT : ∀ t', (⟨h, g, d, t', os⟩ : Shared).TypeIs (.ref so) "super" := fun _ => ⟨_, hso, rfl⟩
  unfold getMethod
  refine wpAny_bind (wpAny_specialOf (hT _) hlk ?_)
  show wpAny _ _ (if (Manifest.canonical "super.__getattribute__" != "object.__getattribute__") = true then _ else _) _ _ _
  rw [if_pos hcan]
  unfold getAttr getAttrBy
  refine wpAny_bind (wpAny_bind (wpAny_mkText (wpAny_holding (wpAny_bind (wpAny_typeOf (hT _) (wpAny_bind (wpAny_of_eq hlk ?_)))))))
  show wpAny _ _ (getAttrByItsOwn (.ref so) (.str name t) (.type "super") (.builtin "super.__getattribute__") true false) _ _ _
  unfold getAttrByItsOwn hookBefore callGetattribute boundAndCalled
  refine wpAny_bind (wpAny_of_eq (show (if onTheHeap (.type "super") then typeLookup (.type "super") "__getattr__" else pure none) = pure none from rfl) ?_)
  refine wpAny_bind (wpAny_attempt (wpAny_holding ?_))
  show wpAny _ _ (bindSpecial (.builtin "super.__getattribute__") (.ref so) >>= _) _ _ _
  refine wpAny_bind (wpAny_of_eq (F.ks_slot_super_ga.bind _) ?_)
  refine wpAny_mono (Q := fun v s' => v = .ref h.objs.size ∧ s' = ⟨h.push (bw x), g, d, t + 1, os⟩) (E := fun _ _ => False)
    (wpAny_call_entry F.ks_slot_super_ga (hT _) F.ks_entry_super_ga (super_ga hso hno hC hl X hf hxC hn hin ⟨_, rfl, rfl, rfl⟩) (F.ks_gaArgs_super _ _)) (fun v s' hv => ?_) fun _ _ z => z.elim
  obtain ⟨rfl, rfl⟩ := hv
  exact wpAny_pure (wpAny_pure hq)
end
section
open PySem.W PySem.Calls PyProof.Rows
variable {prog : Program} {w : World} {M : Model} {A : Around} {E : Value → Shared → Prop} {s : Shared}
theorem callWith_bw {pos : Pos} {u x : Addr} {first : List Value} {args : List (Bool × Sem Value)} {Q : Value → Shared → Prop} (hplain : args.any (·.1) = false)
    (h : wpAny M A (evalArgs (.ref u) true args []) (fun a s₁ => s₁.heap.get? u = some (bw x) ∧ wpAny M A (call (.ref u) (first ++ a.pos) a.kw) Q E s₁) E s) : wpAny M A (callWith pos (.ref u) first args []) Q E s := by
  unfold callWith
  refine wpAny_bind (wpAny_holding (wpAny_mono h (fun a s₁ h₁ => wpAny_bind (wpAny_standAt ?_)) fun _ _ x => x))
  obtain ⟨ho, hcall⟩ := h₁
  simp only [hplain, List.any_nil, Bool.or_false]
  refine wpAny_bind (m := keeperOf (.ref u)) ?_
  unfold keeperOf
  refine wpAny_bind (wpAny_load ho ?_)
  simp only [bw, show (Value.type "method-wrapper" != Value.type "method") = true by decide, show (Value.type "method-wrapper" == Value.type "builtin_function_or_method" || Value.type "method-wrapper" == Value.type "method-wrapper") = true by decide, if_true]
  refine wpAny_pure ?_
  exact wpAny_bind (wpAny_mono hcall (fun r s₂ hr => wpAny_bind (wpAny_holding (wpAny_point (wpAny_pure hr)))) fun _ _ x => x)
theorem callWith_bound {pos : Pos} {u x : Addr} {first : List Value} {env : Env} {e : Expr} {rest : List Expr} {Q : Value → Shared → Prop}
    (h : wpAny M A (spliced (backTo pos (starEach (e :: rest) env))) (fun vs s₁ => s₁.heap.get? u = some (bw x) ∧ wpAny M A (call (.ref u) (first ++ vs)) Q E s₁) E s)
    (he : starEach (e :: rest) env = (false, eval e env) :: starEach rest env := by rfl) (hplain : (backTo pos (starEach rest env)).any (·.1) = false := by rfl) :
    wpAny M A (callWith pos (.ref u) first (backTo pos (starEach (e :: rest) env)) []) Q E s := by
  rw [he] at h ⊢
  refine callWith_bw (x := x) (by show (false || (backTo pos (starEach rest env)).any (·.1)) = false; rw [hplain]; rfl) ?_
  exact evalArgs_plain h
end
section
variable {M : Model} {A : Around} {E : Value → Shared → Prop} {prog : Program} {w : World} {h : Heap} {g : Array GenState} {d : Drawn} {t : Nat} {os : OsState}
variable {nm q : Str} {C N : Addr} {bs bm : List Value} {hdct : Bool} {sn : List Str} {sub : List Value} {ab : Bool} {col : Option Bool} {dd : Option Addr} {k0 k1 k2 k3 k5 : Option Value}
theorem check_bound {B newId initId : String} {bmB : List Value} (F : ExcBaseFacts B newId initId bmB) {e : Addr} {oe : Obj} {rest : List Value} {Q : Unit → Shared → Prop} (hT : ∀ X : String, bm.contains (.type X) = bmB.contains (.type X))
    (hC : h.get? C = some (excClassObj nm q C N bs bm hdct sn sub ab col dd k0 k1 k2 k3 k5 newId)) (he : h.get? e = some oe) (hcls : oe.cls = .ref C) (hq : Q () ⟨h, g, d, t, os⟩) :
    wpAny M A (checkBoundCall initId ⟨.ref e :: rest, []⟩) Q E ⟨h, g, d, t, os⟩ := by
  have hshort := F.noStar
  simp only [checkBoundCall, F.initKind, F.initRow]
  repeat (first | (with_reducible refine wpAny_loadPart_at he ?_; rw [hcls]) | with_reducible refine wpAny_loadPart_at hC ?_ | wp_step)
  refine wpAny_onRaise ?_
  rw [show ∀ (a b : String) (n : Nat), Bind.check ⟨.positional, "*", B, .self, [⟨"args", .varPos, false⟩]⟩ a b n (List.map (fun x => x.fst) ({ pos := Value.ref e :: rest } : Args).kw) = pure () from
    fun a b n => check_star_args _ _ _ _ _ _]
  exact wpAny_pure hq
theorem call_bw {u e t0 : Addr} {rest : List Value} {Q : Value → Shared → Prop} (hT : ∀ X : String, bm.contains (.type X) = HandSPX.veTail.contains (.type X))
    (hC : h.get? C = some (excClassObj nm q C N bs bm hdct sn sub ab col dd k0 k1 k2 k3 k5 "ValueError.__new__")) (he : h.get? e = some (HandSPX.excO C t0)) (hu : h.get? u = some (bw e)) (hrest : rest.length ≤ sizeLine)
    (hq : ∀ h' t1, (∀ b o, b ≠ e → h.get? b = some o → h'.get? b = some o) → h'.get? e = some (HandSPX.excO C t1) → Q .none ⟨h', g, d, t, os⟩) :
    wpAny (model prog w) A (call (.ref u) rest) Q E ⟨h, g, d, t, os⟩ := by
  refine wpAny_call (codeAny_of_tree ?_)
  show wpAny _ A.in1 (callAny (.ref u) ⟨rest, []⟩) _ _ _
  simp only [callAny]
  refine wpAny_bind (wpAny_load hu ?_)
  simp only [bw, show (Value.type "method-wrapper" == Value.type "method" || Value.type "method-wrapper" == Value.type "builtin_function_or_method" || Value.type "method-wrapper" == Value.type "method-wrapper") = true by decide, if_true]
  refine W.KFB.if_so (by decide) ?_
  refine wpAny_bind (check_bound F.excBase_ValueError hT hC he rfl ?_)
  refine wpAny_bind (wpAny_pure (wpAny_pure ?_))
  refine ⟨Code.quiet_builtin _ (by decide +kernel), codeAny_builtin F.excBase_ValueError.initEntry ?_⟩
  rw [Around.under_plainId F.excBase_ValueError.init.plain _]
  wp_walk
  refine hq _ h.objs.size (fun b o hb ho => ?_) ?_
  · rw [Heap.get?_update_other _ _ (Ne.symm hb)]
    exact Heap.get?_push_of_some _ ho
  · rw [Heap.get?_update_self _ (Heap.get?_push_of_some _ he) rfl]
    rfl
end
end SVX
end PySem
end
section
set_option linter.all false
set_option Elab.async false
set_option maxHeartbeats 2000000
set_option maxRecDepth 100000
set_option autoImplicit false
namespace PySem
namespace SVX
open PySem.W PySem.Calls PyProof.Rows
/-! ### the text of __init__ -/
def iA0 (p1 : Pos) : Arguments := { posonlyargs := [], args := [{ arg := "self", annotation := none, pos := p1 }], vararg := none, kwonlyargs := [], kw_defaults := [], kwarg := none, defaults := [] }
def iA1 (f : Str) (p1 p2 : Pos) : Arguments := { posonlyargs := [], args := [{ arg := "self", annotation := none, pos := p1 }, { arg := f, annotation := none, pos := p2 }], vararg := none, kwonlyargs := [], kw_defaults := [], kwarg := none, defaults := [] }
def iE (txt : Str) (j : Nat) (p0 p1 p2 p3 p4 p5 : Pos) : Stmt := .Expr (.Call (.Attribute (.Call (.Name "super" p0) [] [] p1) "__init__" p2) [.Constant (.str txt) j p3] [] p4) p5
def iF (f : Str) (q1 q2 q3 q4 : Pos) : Stmt := .Assign [.Attribute (.Name "self" q1) f q2] (.Name f q3) q4
def iS0 : Scope := { kind := .function, names := [(PySem.Str.ofString "self", .local), (PySem.Str.ofString "__class__", .free), (PySem.Str.ofString "super", .globalImplicit)], isGenerator := false, isCoroutine := false, more := [] }
def iS1 (f : Str) : Scope := { kind := .function, names := [(PySem.Str.ofString "self", .local), (f, .local), (PySem.Str.ofString "__class__", .free), (PySem.Str.ofString "super", .globalImplicit)], isGenerator := false, isCoroutine := false, more := [] }
/-- what is known of the class at C, of its __init__ at fI (cells: cc; code: cda) -/
structure Sup (P : Program) (K : Frag) (mg : Str → Option Value) (C fI cc cda : Addr) : Prop where
  cls : ∃ nm q N bs bm sn sub ab col dd k0 k1 k2 k3 k5, K.lookup C = some (excClassObj nm q C N bs bm true sn sub ab col dd k0 k1 k2 k3 k5 "ValueError.__new__") ∧ HandSPX.refsVE bm = true
  sup : ks_superIn K C C "__init__" = some (some (.builtin "ValueError.__init__"))
  opq : nsIn K cStatics "thirdparty.any" = some none
  mro : mroIn K C (.type "ValueError") = some true
  mro2 : mroIn K C (.ref C) = some true
  code : ∃ ccl cdd vs ccs file tf, K.lookup cda = some ⟨ccl, cdd, .fields vs, ccs⟩ ∧ vs[2]? = some (.str file tf) ∧ ((P.main.file : Str) == file) = true
  cell : ∃ cl cld csl, K.lookup cc = some ⟨cl, cld, .cell (some (.ref C)), csl⟩
  gs : mg "super" = none
  top : (P.main.scope.names.lookup ("super" : Str)).isSome = false
  iC : findIn K (.ref C) "__init__" = some (some (.ref fI))
  tI : typeIn K (.ref fI) = some (.type "function")
section
variable {P : Program} {w : World} {A : Around} {E : Value → Shared → Prop} {s : Shared} {K : Frag} {mg mb m : Str → Option Value} {C fI cc cda L x t0 : Addr}
theorem super_he {o e : Expr} {name : Str} {apos pos : Pos} {env : Env} (hline : (apos.endLine == pos.line) = true) (hs : starEach [e] env = [(false, eval e env)]) : ∃ pl : Sem Bool, eval (.Call (.Attribute o name apos) [e] [] pos) env = (do
      let ov ← attributeBase o name env (eval o env)
      standAt apos.atName
      let (f, first) ← holding [ov] (getMethod ov name pl)
      callWith pos f first (backTo pos (starEach [e] env)) []) := by
  refine ⟨do return (← importBound o env).getD true, ?_⟩
  rw [arm_eval_Call, hs]
  have hform : methodCallForm (([e] : List Expr).length + ([] : List Keyword).length) (backTo pos [(false, eval e env)]) (backToKw pos (keywordEach [] env)) = true := rfl
  have hpos : methodCallPos true o env apos pos = pure pos := by unfold methodCallPos; simp [hline]
  unfold methodCall
  rw [hform, hpos]
  simp only [pure_bind]
  rfl
theorem sup_expr (T : Sup P K mg C fI cc cda) {qual : Str} {scope : Scope} {body : List Stmt} {fd : FuncData} {oc : Value} {od : Option Addr} {osl : Array (Option Value)} {txt : Str} {j : Nat} {p0 p1 p2 p3 p4 p5 a1 : Pos} {rest : List Arg} {Q : Flow → Shared → Prop}
    (hks : scope.names.lookup ("super" : Str) = some .globalImplicit) (hkc : scope.names.lookup ("__class__" : Str) = some .free) (hka : scope.names.lookup ("self" : Str) = some .local) (hk : scope.kind = .function)
    (X : K.In s.heap) (hg : s.heap.Ns mainGlobals mg) (hb : s.heap.Ns builtinsNs mb) (hbb : ∀ x : Str, x ≠ "__name__" → mb x = bootBuiltins x)
    (hf : K.lookup fI = some ⟨oc, od, .func fd, osl⟩) (hp : (fd.params.posonlyargs ++ fd.params.args) = { arg := "self", annotation := none, pos := a1 } :: rest)
    (hn : s.heap.Ns L m) (hv : m "self" = some (.ref x)) (hx : s.heap.get? x = some (HandSPX.excO C t0)) (hline : (p2.endLine == p4.line) = true)
    (hq : ∀ h' t1 tk, (∀ b o, b ≠ x → s.heap.get? b = some o → h'.get? b = some o) → h'.get? x = some (HandSPX.excO C t1) → Q .next { s with heap := h', toks := tk }) :
    _root_.PySem.wpAt (model P w) A (.func body (ksEnv qual scope L fI (.ref cda) cc)) (exec (iE txt j p0 p1 p2 p3 p4 p5) (ksEnv qual scope L fI (.ref cda) cc)) Q E s := by
  obtain ⟨nm, q, N, bs, bm, sn, sub, ab, col, dd, k0, k1, k2, k3, k5, hC, hbm⟩ := T.cls
  have hcl : clsIn K C = some { name := nm, bases := bs, mro := .ref C :: bm, ns := N, qualname := q, hasDict := true, slotNames := sn, subclasses := sub, abstract := ab, collection := col, hasDel := false } := by unfold clsIn; rw [hC] <;> rfl
  obtain ⟨ccl, cdd, vs, ccs, file, tf, hcode, hvs, hfile⟩ := T.code
  obtain ⟨cl, cld, csl, hcell⟩ := T.cell
  have I : InstAt s.heap x (HandSPX.excO C t0) C none := ⟨hx, rfl, rfl, trivial⟩
  obtain ⟨hh, g, d, t, os⟩ := s
  unfold iE
  obtain ⟨pl, hpl⟩ := super_he (o := .Call (.Name "super" p0) [] [] p1) (e := .Constant (.str txt) j p3) (name := "__init__") (env := ksEnv qual scope L fI (.ref cda) cc) hline rfl
  have hint : interactive (ksEnv qual scope L fI (.ref cda) cc) = false := by
    unfold interactive
    simp [hk]
  refine ks_wpAt_Expr_any (hi := hint) (hs := rfl) (ks_wpAt_MethodCall (he := hpl) (ks_wpAt_super_base (env := ksEnv qual scope L fI (.ref cda) cc) (ar := { arg := "self", annotation := none, pos := a1 }) hks hkc (by decide) rfl (X _ _ hf) rfl (by rw [hp]; rfl) rfl (X _ _ hcode) rfl hvs hfile T.top ?_))
  refine ks_loadName_global hk hks (loadGlobal_builtin (env := ksEnv qual scope L fI (.ref cda) cc) hg T.gs hb ((hbb _ (by decide +kernel)).trans (by first | rfl | decide +kernel)) ⟨rfl, ?_⟩)
  refine wpAny_loadName_free hk hkc rfl ⟨_, X _ _ hcell, rfl⟩ ?_
  refine wpAny_loadName_local hk hka hn hv ?_
  refine ks_wpAny_isType_cls (X _ _ hC) rfl ⟨rfl, ?_⟩
  refine ks_wpAny_call_super (X _ _ hC) rfl I.at_ I.cls (fun c e => by cases e) (looks_mroIn X T.mro2) (fun h1 e1 k1 => ?_)
  have X1 : K.In h1 := X.keeps k1
  have hx1 := k1 _ _ hx
  have I1 : InstAt h1 x (HandSPX.excO C t0) C none := ⟨hx1, rfl, rfl, trivial⟩
  have hm := T.sup
  unfold ks_superIn at hm
  rw [hcl] at hm
  replace hm : alongIn K "__init__" (((Value.ref C :: bm).dropWhile (· != .ref C)).drop 1) = some (some (.builtin "ValueError.__init__")) := hm
  have hin : Looks (model P w) h1 (isInstance (.ref x) (.type "ValueError")) true := I1.type.andThen (looks_mroIn X1 T.mro)
  refine SVX.getMethod_super (D := C) e1 (looks_opaque X1 T.opq) (l₀ := .ref C :: bm) (l := ((Value.ref C :: bm).dropWhile (· != .ref C)).drop 1) (fun A Q E s k q => wpAny_bind ((looks_clsIn X1 hcl) A _ E s k (wpAny_pure q))) rfl X1 hm (ks_ne X1 I1 hcl) (by decide) hin ?_
  refine SVX.callWith_bound (x := x) (Calls.spliced_cons (show wpAny (model P w) A (eval (.Constant (.str txt) j p3) (ksEnv qual scope L fI (.ref cda) cc)) _ E _ from Calls.Constant_str ?_)) (by rfl) (by rfl)
  refine Calls.spliced_nil ⟨Heap.get?_push_size _ rfl, ?_⟩
  have k2 : ∀ b o, h1.get? b = some o → (h1.push (bw x)).get? b = some o := fun b o e => Heap.get?_push_of_some _ e
  refine SVX.call_bw (fun X => HandSPX.refsVE_contains X bm hbm) (k2 _ _ (X1 _ _ hC)) (k2 _ _ hx1) (Heap.get?_push_size _ rfl) (by show 1 ≤ sizeLine; rw [sizeLine_eq]; decide) fun h' t1 k3 e3 => ?_
  exact hq h' t1 _ (fun b o hbx e => k3 b o hbx (k2 b o (k1 b o e))) e3
end
end SVX
end PySem
end
section
set_option linter.all false
set_option Elab.async false
set_option maxHeartbeats 2000000
set_option maxRecDepth 100000
set_option autoImplicit false
namespace PySem
namespace SVX
open PySem.W PySem.Calls PyProof.Rows
section
variable {P : Program} {w : World} {A : Around} {E : Value → Shared → Prop} {R : Result → Shared → Prop} {s : Shared} {K : Frag} {mg mb m : Str → Option Value} {C fI cc cda L x t0 : Addr}
theorem ld2 {M : Model} {scope : Scope} {qual : Str} {v : Value} {y : Str} {pos : Pos} {Q : Value → Shared → Prop} {cd : Value} (hn : s.heap.Ns L m) (hv : m y = some v) (h : Q v s) (hk : scope.kind = .function) (hl : scope.names.lookup y = some .local) (hd : (y == ("__debug__" : Str)) = false) :
    wpAny M A (eval (.Name y pos) (ksEnv qual scope L fI cd cc)) Q E s := wpAny_Name (wpAny_loadName_local (env := ksEnv qual scope L fI cd cc) hk hl hn hv h) hd
theorem init0 (T : Sup P K mg C fI cc cda) {qual txt : Str} {kV doc pm ct oc : Value} {an od : Option Addr} {osl : Array (Option Value)} {j : Nat} {a1 p0 p1 p2 p3 p4 p5 : Pos}
    (lk : K.lookup fI = some ⟨oc, od, .func (ksFn "__init__" qual (iA0 a1) [iE txt j p0 p1 p2 p3 p4 p5] iS0 .none kV doc pm an (.ref cda) ct cc), osl⟩) (hcd : codeIn K (.ref cda) qual = true) (hline : (p2.endLine == p4.line) = true)
    (X : K.In s.heap) (hg : s.heap.Ns mainGlobals mg) (hb : s.heap.Ns builtinsNs mb) (hbb : ∀ x : Str, x ≠ "__name__" → mb x = bootBuiltins x) (hlim : s.heap.NoLimit) (hx : s.heap.get? x = some (HandSPX.excO C t0)) (hroom : A.depth < recursionLimit)
    (hq : ∀ h' t1 tk, (∀ b o, b ≠ x → s.heap.get? b = some o → h'.get? b = some o) → h'.get? x = some (HandSPX.excO C t1) → R (.ok (.ret .none)) { s with heap := h', toks := tk }) :
    codeAny (model P w) A (.call (.ref fI) ⟨[.ref x], []⟩) R s := by
  refine ks_codeAny_call_defAt (fd := ksFn "__init__" qual (iA0 a1) [iE txt j p0 p1 p2 p3 p4 p5] iS0 .none kV doc pm an (.ref cda) ct cc) (body := [iE txt j p0 p1 p2 p3 p4 p5]) (binds := [("self", .ref x)]) hroom (X _ _ lk) rfl hlim (codeRec_of X hcd) rfl (BindsTo.of_eq rfl) (show ∀ x ∈ iS0.names, x.2 ≠ .cell by decide) (fun y hy => by
    have hy' : y = (PySem.Str.ofString "self", Value.ref x) := by simpa using hy
    rw [hy']; rfl) (fun h1 hn k1 => ?_) rfl rfl rfl
  refine ks_wpAt_execs_cons (sup_expr (s := { s with heap := h1, toks := s.toks + 1 }) T (scope := iS0) (qual := qual) (rest := []) (a1 := a1) (mb := mb) rfl rfl rfl rfl (X.keeps k1) (hg.keeps k1) (hb.keeps k1) hbb lk rfl hn rfl (k1 _ _ hx) hline fun h' t1 tk k2 e2 => ?_)
  exact wpAt_of_wpAny (wpAny_execs_nil (hq h' t1 tk (fun b o hbx e => k2 b o hbx (k1 b o e)) e2))
theorem init1 (T : Sup P K mg C fI cc cda) {qual txt f : Str} {kV doc pm ct oc v : Value} {an od : Option Addr} {osl : Array (Option Value)} {j : Nat} {a1 a2 p0 p1 p2 p3 p4 p5 q1 q2 q3 q4 : Pos}
    (lk : K.lookup fI = some ⟨oc, od, .func (ksFn "__init__" qual (iA1 f a1 a2) [iE txt j p0 p1 p2 p3 p4 p5, iF f q1 q2 q3 q4] (iS1 f) .none kV doc pm an (.ref cda) ct cc), osl⟩) (hcd : codeIn K (.ref cda) qual = true) (hline : (p2.endLine == p4.line) = true)
    (hf : f = "part" ∨ f = "most" ∨ f = "at" ∨ f = "name") (sa : findIn K (.ref C) "__setattr__" = some (some (.builtin "object.__setattr__"))) (no : findIn K (.ref C) f = some none)
    (X : K.In s.heap) (hg : s.heap.Ns mainGlobals mg) (hb : s.heap.Ns builtinsNs mb) (hbb : ∀ x : Str, x ≠ "__name__" → mb x = bootBuiltins x) (hlim : s.heap.NoLimit) (hx : s.heap.get? x = some (HandSPX.excO C t0)) (hnx : K.lookup x = none) (hroom : A.depth < recursionLimit)
    (hq : ∀ h' t1 tk dx, (∀ b o, b ≠ x → s.heap.get? b = some o → h'.get? b = some o) → h'.get? x = some { cls := .ref C, dict := some dx, data := .fields #[.ref t1, .none, .none, .none, .bool false, .none] } →
      s.heap.objs.size ≤ dx → dx ≠ x → h'.Ns1 dx (fun y => if y = f then some v else none) → R (.ok (.ret .none)) { s with heap := h', toks := tk }) :
    codeAny (model P w) A (.call (.ref fI) ⟨[.ref x, v], []⟩) R s := by
  obtain ⟨f1, f2, f3, f4⟩ : f ≠ "self" ∧ f ≠ "__class__" ∧ f ≠ "super" ∧ (f == ("__debug__" : Str)) = false := by rcases hf with rfl | rfl | rfl | rfl <;> decide
  have hbind : ∀ s : Shared, BindsTo s (ksFn "__init__" qual (iA1 f a1 a2) [iE txt j p0 p1 p2 p3 p4 p5, iF f q1 q2 q3 q4] (iS1 f) .none kV doc pm an (.ref cda) ct cc) ⟨[.ref x, v], []⟩ [("self", .ref x), (f, v)] := fun s => by
    rcases hf with rfl | rfl | rfl | rfl <;> exact BindsTo.of_eq (by first | rfl | with_unfolding_all rfl)
  obtain ⟨nm, q, N, bs, bm, sn, sub, ab, col, dd, k0, k1, k2, k3, k5, hC, hbm⟩ := T.cls
  have hcl : clsIn K C = some { name := nm, bases := bs, mro := .ref C :: bm, ns := N, qualname := q, hasDict := true, slotNames := sn, subclasses := sub, abstract := ab, collection := col, hasDel := false } := by unfold clsIn; rw [hC] <;> rfl
  have ls : (iS1 f).names.lookup ("self" : Str) = some .local := rfl
  have lf : (iS1 f).names.lookup f = some .local := by
    show List.lookup f [(PySem.Str.ofString "self", NameKind.local), (f, .local), (PySem.Str.ofString "__class__", .free), (PySem.Str.ofString "super", .globalImplicit)] = _
    have e1 : (f == PySem.Str.ofString "self") = false := by simpa using f1
    simp [List.lookup, e1]
  have lc : (iS1 f).names.lookup ("__class__" : Str) = some .free := by
    show List.lookup _ [(PySem.Str.ofString "self", NameKind.local), (f, .local), (PySem.Str.ofString "__class__", .free), (PySem.Str.ofString "super", .globalImplicit)] = _
    have e1 : ((PySem.Str.ofString "__class__" : Str) == f) = false := by simpa using fun z => f2 z.symm
    have e0 : ((PySem.Str.ofString "__class__" : Str) == PySem.Str.ofString "self") = false := by decide
    simp [List.lookup, e1, e0]
  have lu : (iS1 f).names.lookup ("super" : Str) = some .globalImplicit := by
    show List.lookup _ [(PySem.Str.ofString "self", NameKind.local), (f, .local), (PySem.Str.ofString "__class__", .free), (PySem.Str.ofString "super", .globalImplicit)] = _
    have e1 : ((PySem.Str.ofString "super" : Str) == f) = false := by simpa using fun z => f3 z.symm
    have e0 : ((PySem.Str.ofString "super" : Str) == PySem.Str.ofString "self") = false := by decide
    have e2 : ((PySem.Str.ofString "super" : Str) == PySem.Str.ofString "__class__") = false := by decide
    simp [List.lookup, e1, e0, e2]
  have vs : ([(f, v), ((PySem.Str.ofString "self" : Str), Value.ref x)] : List (Str × Value)).lookup (PySem.Str.ofString "self") = some (.ref x) := by
    have e1 : ((PySem.Str.ofString "self" : Str) == f) = false := by simpa using fun z => f1 z.symm
    simp [List.lookup, e1]
  have vf : ([(f, v), ((PySem.Str.ofString "self" : Str), Value.ref x)] : List (Str × Value)).lookup f = some v := by simp [List.lookup]
  refine ks_codeAny_call_defAt (fd := ksFn "__init__" qual (iA1 f a1 a2) [iE txt j p0 p1 p2 p3 p4 p5, iF f q1 q2 q3 q4] (iS1 f) .none kV doc pm an (.ref cda) ct cc) (body := [iE txt j p0 p1 p2 p3 p4 p5, iF f q1 q2 q3 q4]) (binds := [("self", .ref x), (f, v)]) hroom (X _ _ lk) rfl hlim (codeRec_of X hcd) rfl (hbind s)
    (fun y hy => ?_) (fun y hy => ?_) (fun h1 hn k1 => ?_) rfl rfl rfl
  · have hy' : y ∈ [(PySem.Str.ofString "self", NameKind.local), (f, .local), (PySem.Str.ofString "__class__", .free), (PySem.Str.ofString "super", .globalImplicit)] := hy
    simp only [List.mem_cons, List.not_mem_nil, or_false] at hy'
    rcases hy' with z | z | z | z <;> (rw [z]; intro h; cases h)
  · have hy' : y = (PySem.Str.ofString "self", Value.ref x) ∨ y = (f, v) := by simpa using hy
    rcases hy' with z | z
    · rw [z]; exact ls
    · rw [z]; exact lf
  · refine ks_wpAt_execs_cons (sup_expr (s := { s with heap := h1, toks := s.toks + 2 }) T (scope := iS1 f) (qual := qual) (rest := [{ arg := f, annotation := none, pos := a2 }]) (a1 := a1) (mb := mb) lu lc ls rfl (X.keeps k1) (hg.keeps k1) (hb.keeps k1) hbb lk rfl hn (by first | exact vs | simpa using vs) (k1 _ _ hx) hline fun h2 t1 tk k2 e2 => ?_)
    have hLx : s.heap.objs.size ≠ x := Nat.ne_of_gt (Heap.lt_size hx)
    have hn2 : h2.Ns s.heap.objs.size (fun y => ([("self", .ref x), (f, v)] : List (Str × Value)).reverse.lookup y) := by
      obtain ⟨o, es, ep, e, r⟩ := hn
      exact ⟨o, es, ep, k2 _ _ hLx e, r⟩
    have X2 : K.In h2 := fun a o e => k2 a o (fun z => by rw [z, hnx] at e; cases e) (k1 a o (X a o e))
    refine ks_wpAt_execs_cons (ks_wpAt_Assign_Attr (wpAt_of_wpAny ?_) (by rfl))
    refine ld2 (L := s.heap.objs.size) hn2 (by first | exact vf | simpa using vf) (ld2 (L := s.heap.objs.size) hn2 (by first | exact vs | simpa using vs) ?_ rfl ls (by decide)) rfl lf f4
    refine set_plain X2 (ox := HandSPX.excO C t1) (od := none) ⟨e2, rfl, rfl, trivial⟩ sa ?_
    refine HandSPX.exc_osa X2 e2 hcl (show HandSPX.refsVE (.ref C :: bm) = true from hbm) rfl no (fun h3 tk3 dx k3 dn dne hx3 hn3 => ?_)
    exact wpAt_of_wpAny (wpAny_execs_nil (hq h3 t1 tk3 dx (fun b o hb e => k3 b o hb (k2 b o hb (k1 b o e))) hx3 (Nat.le_of_lt (Nat.lt_of_lt_of_le hn2.lt dn)) dne hn3))
end
end SVX
end PySem
end
section
set_option linter.all false
set_option Elab.async false
set_option maxHeartbeats 2000000
set_option maxRecDepth 100000
set_option autoImplicit false
namespace Mi
open PySem PySem.Spec PyProof.Rows L2 PySem.SVX
/-- an own error of the program: where it stands, what it keeps -/
structure ErrOk (P : Program) (K : PySem.W.Frag) (mg : Str → Option Value) (C : Addr) (fld : Option Str) : Prop where
  kC : PySem.W.keepIn K (.ref C) = true
  exC : PySem.W.subIn K (.ref C) (.type "BaseException") = some true
  tyC : PySem.W.typeIn K (.ref C) = some (.type "type")
  txt : ∃ fI cc cda, Sup P K mg C fI cc cda ∧ ∃ (qual txt : Str) (kV doc pm ct oc : Value) (an od : Option Addr) (osl : Array (Option Value)) (j : Nat) (a1 p0 p1 p2 p3 p4 p5 : Pos), PySem.W.codeIn K (.ref cda) qual = true ∧ (p2.endLine == p4.line) = true ∧ match fld with
    | none => K.lookup fI = some ⟨oc, od, .func (PySem.W.ksFn "__init__" qual (iA0 a1) [iE txt j p0 p1 p2 p3 p4 p5] iS0 .none kV doc pm an (.ref cda) ct cc), osl⟩
    | some f => (f = "part" ∨ f = "most" ∨ f = "at" ∨ f = "name") ∧ PySem.W.findIn K (.ref C) "__setattr__" = some (some (.builtin "object.__setattr__")) ∧ PySem.W.findIn K (.ref C) f = some none ∧ ∃ (a2 q1 q2 q3 q4 : Pos),
      K.lookup fI = some ⟨oc, od, .func (PySem.W.ksFn "__init__" qual (iA1 f a1 a2) [iE txt j p0 p1 p2 p3 p4 p5, iF f q1 q2 q3 q4] (iS1 f) .none kV doc pm an (.ref cda) ct cc), osl⟩
section
variable {X : L2.Cx} {C : Addr} {x : Str} {p pos : Pos} {e : Expr} {ta : TA}
/-- what is known behind the making -/
def tMk0 (C : Addr) : L2.St → Hp → XK → Prop := fun σ H Q => Q (.ref C) none H
def tMk1 (C : Addr) (f : Str) (ta : TA) : L2.St → Hp → XK → Prop := fun σ H Q => ta σ H fun vs H1 => ∃ v, vs = [v] ∧ ∀ d, H1 d = none → Q (.ref C) (some d) (L2.upd H1 d (.xd [(f, v)]))
theorem nx_of {K : PySem.W.Frag} {h : Heap} {a : Addr} (X : K.In h) (ha : h.objs.size ≤ a) : K.lookup a = none := by
  cases e : K.lookup a with
  | none => rfl
  | some o => exact absurd (Nat.lt_of_lt_of_le (Heap.lt_size (X a o e)) ha) (Nat.lt_irrefl _)
theorem pmk_0 {k : Nat} (T : ErrOk X.prog X.K X.mg C none) (hr : Room k X.A) (hg : Gl X x) (hm : X.mg x = some (.ref C)) (hdb : (x == ("__debug__" : Str)) = false) : PMk X (.Call (.Name x p) [] [] pos) (tMk0 C) := by
  intro pins s σ H Q I h
  obtain ⟨fI, cc, cda, S, qual, txt, kV, doc, pm, ct, oc, an, od, osl, j, a1, p0, p1, p2, p3, p4, p5, hcd, hline, lk⟩ := T.txt
  obtain ⟨nm, q, N, bs, bm, sn, sub, ab, col, dd, k0, k1, k2, k3, k5, hC, hbm⟩ := S.cls
  refine wpAny_Call_Name_kw (ld_glob I hg hm ?_ hdb)
  refine PySem.W.callWith_K0 I.kIn T.kC ?_
  show wpAny _ _ (call (.ref C) []) _ _ _
  have hlim := I.nolimit
  have X0 := I.kIn
  obtain ⟨mb, hb, hbb⟩ := I.ok.mod.blt
  have hg0 := I.ok.mod.glob.keeps I.bk
  have hb0 := hb.keeps I.bk
  have hn0 : H (s.heap.objs.size + 1) = none := I.hok.fresh (Nat.le_succ _)
  obtain ⟨hp, g, dr, tk, os⟩ := s
  have kk : ∀ b o, hp.get? b = some o → ((hp.push (PySem.W.kdv_tup [])).push (HandSPX.excO C hp.objs.size)).get? b = some o := fun b o e => Heap.get?_push_of_some _ (Heap.get?_push_of_some _ e)
  have hget : ((hp.push (PySem.W.kdv_tup [])).push (HandSPX.excO C hp.objs.size)).get? (hp.objs.size + 1) = some (HandSPX.excO C hp.objs.size) := by heap_get
  refine wpAny_call (HandSPX.call_own F.excBase_ValueError (fun Y => HandSPX.refsVE_contains Y bm hbm) (X0 _ _ hC) (PySem.W.looks_findIn X0 S.iC) (fun self => PySem.W.bind_fn X0 self S.tI) (Nat.zero_le _) ?_)
  have hroom : X.A.depth + 1 < recursionLimit := by have := hr.dp; omega
  refine SVX.init0 (s := ⟨(hp.push (PySem.W.kdv_tup [])).push (HandSPX.excO C hp.objs.size), g, dr, tk, os⟩) S lk hcd hline (X0.keeps kk) (hg0.keeps kk) (hb0.keeps kk) hbb (hlim.keeps kk) hget (by first | exact hroom | (rw [make_depth]; exact hroom)) fun h' t1 tk' k' e' => ⟨rfl, ?_⟩
  show MkP X pins σ Q (.ref (hp.objs.size + 1)) ⟨h', g, dr, tk', os⟩
  obtain ⟨G', g1, g2⟩ := restrict h' fun b => decide (b ≠ hp.objs.size + 1)
  have gk : ∀ b, b ≠ hp.objs.size + 1 → G'.get? b = h'.get? b := fun b hb => g1 b (decide_eq_true hb)
  have ge : G'.get? (hp.objs.size + 1) = none := g2 _ (by simp)
  have old : ∀ b o, hp.get? b = some o → G'.get? b = some o := fun b o q => by
    have hne : b ≠ hp.objs.size + 1 := Nat.ne_of_lt (Nat.lt_succ_of_lt (Heap.lt_size q))
    exact (gk b hne).trans (k' b o hne (kk b o q))
  have J : L2.Inv X pins σ H ⟨G', g, dr, tk', os⟩ := I.kept (t' := tk') old
  refine ⟨_, _, _, ⟨G', g, dr, tk', os⟩, H, .ref C, none, rfl, J, fun b o q => ?_, ge, e', ⟨rfl, rfl⟩, rfl, rfl, hn0, rfl, I.bare, raises_own T.exC T.tyC, h⟩
  by_cases hb : b = hp.objs.size + 1
  · have q' : G'.get? b = some o := q
    rw [hb, ge] at q'; cases q'
  · exact (gk b hb).symm.trans q
theorem relO_1 {f : Str} {v : V} {v' : Value} (r : RelV v v') (g : Str) : RelO (List.lookup g [(f, v)]) (if g = f then some v' else none) := by
  by_cases hw : g = f
  · subst hw
    rw [if_pos rfl]
    have q : List.lookup g [(g, v)] = some v := by simp [List.lookup]
    rw [q]
    exact r
  · rw [if_neg hw]
    have qw : (g == f) = false := by simpa using hw
    have q2 : List.lookup g [(f, v)] = none := by simp [List.lookup, qw]
    rw [q2]
    trivial
theorem pmk_1 {k : Nat} {f : Str} (T : ErrOk X.prog X.K X.mg C (some f)) (hr : Room k X.A) (hg : Gl X x) (hm : X.mg x = some (.ref C)) (hdb : (x == ("__debug__" : Str)) = false) (ha : PA X [e] ta) (hs : isStar e = false) : PMk X (.Call (.Name x p) [e] [] pos) (tMk1 C f ta) := by
  intro pins s σ H Q I h
  obtain ⟨fI, cc, cda, S, qual, txt, kV, doc, pm, ct, oc, an, od, osl, j, a1, p0, p1, p2, p3, p4, p5, hcd, hline, hf, sa, no, a2, q1, q2, q3, q4, lk⟩ := T.txt
  obtain ⟨nm, q, N, bs, bm, sn, sub, ab, col, dd, k0, k1, k2, k3, k5, hC, hbm⟩ := S.cls
  refine wpAny_Call_Name_kw (ld_glob I hg hm ?_ hdb)
  refine PySem.W.callWith_K (h₀ := X.base) I.ok.mod.kin T.kC (thn (ha.run pos pins s σ H _ I h) fun us s1 ⟨vs, H1, I1, r1, v, ev, q1⟩ => ⟨I1.kIn, ?_⟩) (starEach_ok hs X.env) (by rfl)
  subst ev
  obtain ⟨v', rfl, rv⟩ := vals1 r1
  show wpAny _ _ (call (.ref C) [v']) _ _ _
  have hlim := I1.nolimit
  have X0 := I1.kIn
  obtain ⟨mb, hb, hbb⟩ := I1.ok.mod.blt
  have hg0 := I1.ok.mod.glob.keeps I1.bk
  have hb0 := hb.keeps I1.bk
  have hn0 : H1 (s1.heap.objs.size + 1) = none := I1.hok.fresh (Nat.le_succ _)
  obtain ⟨hp, g, dr, tk, os⟩ := s1
  have kk : ∀ b o, hp.get? b = some o → ((hp.push (PySem.W.kdv_tup [v'])).push (HandSPX.excO C hp.objs.size)).get? b = some o := fun b o e => Heap.get?_push_of_some _ (Heap.get?_push_of_some _ e)
  have hget : ((hp.push (PySem.W.kdv_tup [v'])).push (HandSPX.excO C hp.objs.size)).get? (hp.objs.size + 1) = some (HandSPX.excO C hp.objs.size) := by heap_get
  refine wpAny_call (HandSPX.call_own F.excBase_ValueError (fun Y => HandSPX.refsVE_contains Y bm hbm) (X0 _ _ hC) (PySem.W.looks_findIn X0 S.iC) (fun self => PySem.W.bind_fn X0 self S.tI) (by show 1 ≤ sizeLine; rw [sizeLine_eq]; decide) ?_)
  have hroom : X.A.depth + 1 < recursionLimit := by have := hr.dp; omega
  refine SVX.init1 (s := ⟨(hp.push (PySem.W.kdv_tup [v'])).push (HandSPX.excO C hp.objs.size), g, dr, tk, os⟩) S lk hcd hline hf sa no (X0.keeps kk) (hg0.keeps kk) (hb0.keeps kk) hbb (hlim.keeps kk) hget (nx_of X0 (Nat.le_succ _)) (by first | exact hroom | (rw [make_depth]; exact hroom)) fun h' t1 tk' dx k' e' dn dne hns => ⟨rfl, ?_⟩
  show MkP X pins σ Q (.ref (hp.objs.size + 1)) ⟨h', g, dr, tk', os⟩
  obtain ⟨G', g1, g2⟩ := restrict h' fun b => decide (b ≠ hp.objs.size + 1)
  have gk : ∀ b, b ≠ hp.objs.size + 1 → G'.get? b = h'.get? b := fun b hb => g1 b (decide_eq_true hb)
  have ge : G'.get? (hp.objs.size + 1) = none := g2 _ (by simp)
  have old : ∀ b o, hp.get? b = some o → G'.get? b = some o := fun b o q => by
    have hne : b ≠ hp.objs.size + 1 := Nat.ne_of_lt (Nat.lt_succ_of_lt (Heap.lt_size q))
    exact (gk b hne).trans (k' b o hne (kk b o q))
  have dbig : hp.objs.size ≤ dx := Nat.le_trans (by rw [Heap.size_push, Heap.size_push]; exact Nat.le_trans (Nat.le_succ _) (Nat.le_succ _)) dn
  have ob : ObjOk X.prog X.w (L2.upd H1 dx (.xd [(f, v)])) G' dx (.xd [(f, v)]) := ⟨_, hns.at (fun o q => (gk dx dne).trans q), fun g => relO_1 rv g⟩
  have J : L2.Inv X pins σ (L2.upd H1 dx (.xd [(f, v)])) ⟨G', g, dr, tk', os⟩ := I1.laid (t' := tk') old dbig ob
  refine ⟨_, _, _, ⟨G', g, dr, tk', os⟩, _, .ref C, some dx, rfl, J, fun b o q => ?_, ge, e', ⟨rfl, rfl⟩, rfl, rfl, ?_, rfl, I1.bare, raises_own T.exC T.tyC, q1 dx (I1.hok.fresh dbig)⟩
  · by_cases hb : b = hp.objs.size + 1
    · have q' : G'.get? b = some o := q
      rw [hb, ge] at q'; cases q'
    · exact (gk b hb).symm.trans q
  · rw [upd_ne (Ne.symm dne)]
    exact hn0
end
end Mi
end
section
set_option linter.all false
set_option Elab.async false
set_option maxHeartbeats 2000000
set_option autoImplicit false
namespace Mi
open PySem L2
section
variable {G : Gx} {X : L2.Cx} {Wx : WX} {pos pos2 p : Pos} {e : Expr} {r : Sg → List Ob → R (List W)} {cx : Cx} {C : Addr} {x : Str} {c k : Nat}
theorem raiseS_ok {σ : Sg} {ws : List W} {o : List Ob} : raiseS cx c σ ws o = .bad ∨ ∃ cl fs ds, cx.tab.cl c = some cl ∧ cl.ex = some fs ∧ allD ws = some ds ∧ ds.length = fs.length ∧ raiseS cx c σ ws o = .exc ⟨c, fs.zip ds⟩ σ o := by
  unfold raiseS
  split
  · rename_i i m mu fs ds h1 h2
    split
    · rename_i hl
      exact .inr ⟨_, fs, ds, h1, rfl, h2, hl, rfl⟩
    · exact .inl rfl
  · exact .inl rfl
theorem ps_raise0 {cl : Cl} (hc : X.calm = true) (tk : Takes X Wx) (T : ErrOk X.prog X.K X.mg C none) (hr : Room k X.A) (hg : Gl X x) (hm : X.mg x = some (.ref C)) (hdb : (x == ("__debug__" : Str)) = false) (hga : G.ga c = some C ∧ G.isE c = true) (hcl : cx.tab.cl c = some cl) (hex : cl.ex = some []) :
    PS X (.Raise (some (.Call (.Name x p) [] [] pos)) none pos2) (tS G Wx fun τ o => bndS ((fun _ o => .ok [] o : Sg → List Ob → R (List W)) τ o) τ fun ws o1 => raiseS cx c τ ws o1) :=
  PS.weak (ps_raise hc tk (pmk_0 T hr hg hm hdb)) fun D σ H ⟨ρ, τ, o, b, l, q⟩ => by
    have q : Mi.SP G Wx ρ H D (raiseS cx c τ [] o) := q
    rcases raiseS_ok (cx := cx) (c := c) (σ := τ) (ws := []) (o := o) with e | ⟨cl', fs, ds, h1, h2, h3, h4, e⟩
    · rw [e] at q; exact q.elim
    · rw [e] at q
      rw [hcl] at h1; cases h1
      rw [hex] at h2; cases h2
      exact q _ _ _ _ ⟨ρ, List.prefix_rfl, Stp.refl, b, l, C, hga, rfl, .inl ⟨by simp, rfl⟩⟩
theorem ps_raise1 {cl : Cl} {f : Str} {kf : Nat} (hc : X.calm = true) (tk : Takes X Wx) (T : ErrOk X.prog X.K X.mg C (some f)) (hr : Room k X.A) (hg : Gl X x) (hm : X.mg x = some (.ref C)) (hdb : (x == ("__debug__" : Str)) = false) (hga : G.ga c = some C ∧ G.isE c = true) (hcl : cx.tab.cl c = some cl) (hex : cl.ex = some [kf])
    (hf : G.names[kf]? = some f) (ha : PA X [e] (tA G Wx r)) (hs : isStar e = false) :
    PS X (.Raise (some (.Call (.Name x p) [e] [] pos)) none pos2) (tS G Wx fun τ o => bndS (r τ o) τ fun ws o1 => raiseS cx c τ ws o1) :=
  PS.weak (ps_raise hc tk (pmk_1 T hr hg hm hdb ha hs)) fun D σ H q => (tS_A (f := fun τ ws o1 => raiseS cx c τ ws o1) q).mono fun vs H1 ⟨ρ, o, τ, ws, at_, rws, q⟩ => by
    have q : Mi.SP G Wx ρ H1 D (raiseS cx c τ ws o) := q
    rcases raiseS_ok (cx := cx) (c := c) (σ := τ) (ws := ws) (o := o) with e | ⟨cl', fs, ds, h1, h2, h3, h4, e⟩
    · rw [e] at q; exact q.elim
    · rw [e] at q
      rw [hcl] at h1; cases h1
      rw [hex] at h2; cases h2
      match ds, h4 with
      | [d], _ =>
        have rd := rds_of h3 rws
        cases rd with
        | @cons _ v _ _ rd r0 =>
          cases r0
          refine ⟨v, rfl, fun dx hdx => ?_⟩
          have s : Stp ρ H1 ρ (L2.upd H1 dx (.xd [(f, v)])) := Stp.new hdx
          exact q _ _ _ _ ⟨ρ, List.prefix_rfl, s, at_.ob.grow s (keepN hdx), at_.sl.step List.prefix_rfl s at_.ob.zm, C, hga, rfl, .inr ⟨dx, [(f, v)], rfl, upd_same, .cons hf (rd.step s at_.ob.zm) .nil⟩⟩
end
end Mi
end
section
set_option linter.all false
set_option Elab.async false
set_option maxHeartbeats 2000000
set_option autoImplicit false
namespace Mi
open PySem L2
section
variable {G : Gx} {X : L2.Cx} {Wx : WX} {pos pos' np : Pos} {cx : Cx} {ρ ρ1 zs zs' : List Addr} {H H1 H2 : Hp} {o o1 : List Ob} {σ : L2.St} {τ : Sg} {D : Ends}
/-! ### try: the suite's ground -/
abbrev gE (G : Gx) (e : ErI) : Gx := { G with er := some e }
theorem Mv.toE {e : ErI} : Mv G zs H (gE G e) zs H := ⟨fun _ _ h => h, rfl, rfl, rfl, rfl, rfl, rfl, fun _ _ h n1 n2 => ⟨h, n1, n2⟩, fun _ _ _ h n1 n2 => ⟨h, n1, n2⟩, fun _ _ _ h => h, fun _ _ _ _ h n1 n2 => ⟨h, n1, n2⟩⟩
theorem Mv.ofE {e : ErI} : Mv (gE G e) zs H G zs H := ⟨fun _ _ h => h, rfl, rfl, rfl, rfl, rfl, rfl, fun _ _ h n1 n2 => ⟨h, n1, n2⟩, fun _ _ _ h n1 n2 => ⟨h, n1, n2⟩, fun _ _ _ h => h, fun _ _ _ _ h n1 n2 => ⟨h, n1, n2⟩⟩
theorem RX.mv {G' : Gx} {H' : Hp} (m : Mv G zs H G' zs' H') (hx : ∀ dx u, H dx = some (.xd u) → H' dx = some (.xd u)) {e : Ex} {cls : Value} {d : Option Addr} (x : RX G zs e cls d H) : RX G' zs' e cls d H' := by
  obtain ⟨C, h1, h2, h3⟩ := x
  refine ⟨C, by rw [m.ga, m.ie]; exact h1, h2, ?_⟩
  rcases h3 with h3 | ⟨dx, fv, h4, h5, h6⟩
  · exact .inl h3
  · exact .inr ⟨dx, fv, h4, hx _ _ h5, RDf.mv m h6⟩
theorem Obs.toE {e : ErI} (b : Obs G ρ zs H o) (x : RX G zs e.x e.cls e.d H) : Obs (gE G e) ρ zs H o :=
  b.mv Mv.toE (fun _ _ _ h => h) b.sub b.zm b.av fun e' he => by cases he; exact x.mv Mv.toE fun _ _ h => h
theorem Obs.ofE {e : ErI} (h0 : G.er = none) (b : Obs (gE G e) ρ zs H o) : Obs G ρ zs H o :=
  b.mv Mv.ofE (fun _ _ _ h => h) b.sub b.zm b.av (er0 h0)
theorem PostV.ofE {e : ErI} (h0 : G.er = none) {val : Val} {v : V} (h : PostV (gE G e) ρ H val o v H1) : PostV G ρ H val o v H1 := by
  obtain ⟨ρ', p, h⟩ := h
  refine ⟨ρ', p, ?_⟩
  cases val with
  | w w => exact ⟨h.1, Obs.ofE h0 h.2.1, RW.mv Mv.ofE h.2.2⟩
  | fl ws =>
    obtain ⟨a, vs, e1, n, ha, s, b, r⟩ := h
    exact ⟨a, vs, e1, n, ha, s, Obs.ofE h0 b, RWs.mv Mv.ofE r⟩
def tryR (cx : Cx) (c : Nat) (slot : Option Nat) (rb : Sg → List Ob → SR) (rh : Ex → Sg → List Ob → SR) : Sg → List Ob → SR := fun σ o => match rb σ o with
    | .exc x σ1 o1 => if cx.tab.sub x.c c then
        match slot with
        | some i => if i < σ1.length then match rh x (σ1.set i none) o1 with
            | .next σ3 o3 => .next (σ3.set i none) o3
            | .ret v o3 => .ret v o3
            | _ => .bad else .bad
        | none => match rh x σ1 o1 with
            | .next σ3 o3 => .next σ3 o3
            | .ret v o3 => .ret v o3
            | _ => .bad
      else .exc x σ1 o1
    | r => r
/-- the clause's class tells the program's errors apart as sub does -/
def SubOk (G : Gx) (K : PySem.W.Frag) (cx : Cx) (c : Nat) (cv : Value) : Prop := ∀ k C, G.ga k = some C → G.isE k = true → PySem.W.exmOne K (.ref C) cv = some (cx.tab.sub k c)
/-- tS, with something more known at the start -/
def tSP (Pre : List Addr → Sg → List Ob → L2.St → Hp → Prop) (G : Gx) (Wx : WX) (r : Sg → List Ob → SR) : TS := fun D σ H => ∃ ρ τ o, Pre ρ τ o σ H ∧ Obs G ρ ρ H o ∧ Sl G ρ ρ H τ σ ∧ SP G Wx ρ H D (r τ o)
variable {body suite : List Stmt} {b₀ : Stmt} {xn n : Str} {cv : Value} {c i : Nat} {rb : Sg → List Ob → SR} {rh : Ex → Sg → List Ob → SR}
theorem Sl.none_at (l : Sl G ρ zs H τ σ) (h0 : G.er = none) {v : Option V} : Sl G ρ zs H (τ.set i none) (σ.set i v) := ⟨by simpa using l.len, fun j w e => by
  by_cases hj : i = j
  · subst hj
    by_cases hl : i < τ.length
    · rw [List.getElem?_set_self hl] at e; cases e
    · rw [List.getElem?_eq_none (by simpa using hl)] at e; cases e
  · rw [List.getElem?_set_ne hj] at e ⊢
    exact l.at_ j w e, er0 h0⟩
theorem ps_tryAsP {Pre : List Addr → Sg → List Ob → L2.St → Hp → Prop} (h0 : G.er = none) (hs : X.stack = X.env :: X.outer) (hf : X.env.frame = some X.env.locals) (hN : X.N.Nodup) (hi : X.N[i]? = some n) (hln : X.env.kindOf n = some .local) (hc : Names X xn cv) (tk : Takes X Wx) (hsub : SubOk G X.K cx c cv)
    (hb : ∀ (W : WX) (pn : List (Addr × Obj)) (xe : Value → Shared → Prop), Takes (X.tr pn xe) W → PassesOwn (model X.prog X.w) X.A X.env xe → PSs (X.tr pn xe) body (tSP Pre G W rb))
    (hsu : ∀ (a : Addr) (oe : Obj) (cls : Value) (d : Option Addr) (pn : List (Addr × Obj)) (x : Ex), Zc cls d oe → (∃ vs, oe.data = .fields vs) → PSs (X.suite a ((a, oe) :: pn)) (b₀ :: suite) (tS (gE G ⟨i, a, x, cls, d⟩) W0 (rh x))) :
    PS X (.Try body [.ExceptHandler (some (.Name xn np)) (some n) (b₀ :: suite) pos'] [] [] pos) (tSP Pre G Wx (tryR cx c (some i) rb rh)) :=
  PS.weak (ps_try_as (Wout := Wx) (tb := fun W => tSP Pre G W rb) (ts := fun a cls d D σ H => ∃ x, tS (gE G ⟨i, a, x, cls, d⟩) W0 (rh x) D σ H) hs hf hN hi hln hc tk hb
    (fun a oe cls d pn hz hv => ⟨fun pins s σ H D I ⟨x, q⟩ => (hsu a oe cls d pn x hz hv).run pins s σ H D I q⟩)) fun D σ H ⟨ρ, τ, o, hpre, b, l, q⟩ => by
    refine ⟨ρ, τ, o, hpre, b, l, ?_⟩
    unfold tryR at q
    cases z : rb τ o with
    | next _ _ => rw [z] at q; exact q
    | ret _ _ => rw [z] at q; exact q
    | brk _ _ => rw [z] at q; exact q
    | cont _ _ => rw [z] at q; exact q
    | bad => rw [z] at q; exact q
    | exc x τ1 o1 =>
      rw [z] at q
      intro cls d σ' H' hp
      have hp' := hp
      obtain ⟨ρ', p, s, b', l', C, hC, rfl, hx⟩ := hp
      have rx : RX G ρ' x (.ref C) d H' := ⟨C, hC, rfl, hx⟩
      refine ⟨cx.tab.sub x.c c, hsub x.c C hC.1 hC.2, fun hb a ha => ?_, fun hb => ?_⟩
      · simp only [hb, if_true] at q
        split at q
        · rename_i hlt
          refine ⟨x, ρ', τ1.set i none, o1, b'.toE rx, ⟨(l'.none_at h0 (v := some (.ref a))).len, fun j w e => ?_, fun e he => ?_⟩, ?_⟩
          · obtain ⟨v, e1, e2⟩ := (l'.none_at h0 (v := some (.ref a))).at_ j w e
            exact ⟨v, e1, RW.mv Mv.toE e2⟩
          · cases he
            exact List.getElem?_set_self (by rw [← l'.len]; exact hlt)
          · cases y : rh x (τ1.set i none) o1 with
            | next τ3 o3 =>
              rw [y] at q
              intro σ3 H3 hp3
              obtain ⟨ρ3, p3, s3, b3, l3⟩ := hp3
              have l3' : Sl G ρ3 ρ3 H3 τ3 σ3 := ⟨l3.len, fun j w e => by
                obtain ⟨v, e1, e2⟩ := l3.at_ j w e
                exact ⟨v, e1, RW.mv Mv.ofE e2⟩, er0 h0⟩
              exact q _ _ ⟨ρ3, p.trans p3, s.trans s3, Obs.ofE h0 b3, l3'.none_at h0⟩
            | ret v o3 =>
              rw [y] at q
              intro u H3 hp3
              exact q u H3 ((PostV.ofE h0 hp3).lift p s)
            | brk _ _ => rw [y] at q; exact q.elim
            | cont _ _ => rw [y] at q; exact q.elim
            | exc _ _ _ => rw [y] at q; exact q.elim
            | bad => rw [y] at q; exact q.elim
        · exact False.elim q
      · simp only [hb, Bool.false_eq_true, if_false] at q
        exact q _ _ _ _ hp'
theorem ps_tryAsE (h0 : G.er = none) (hs : X.stack = X.env :: X.outer) (hf : X.env.frame = some X.env.locals) (hN : X.N.Nodup) (hi : X.N[i]? = some n) (hln : X.env.kindOf n = some .local) (hc : Names X xn cv) (tk : Takes X Wx) (hsub : SubOk G X.K cx c cv)
    (hb : ∀ (W : WX) (pn : List (Addr × Obj)) (xe : Value → Shared → Prop), Takes (X.tr pn xe) W → PassesOwn (model X.prog X.w) X.A X.env xe → PSs (X.tr pn xe) body (tS G W rb))
    (hsu : ∀ (a : Addr) (oe : Obj) (cls : Value) (d : Option Addr) (pn : List (Addr × Obj)) (x : Ex), Zc cls d oe → (∃ vs, oe.data = .fields vs) → PSs (X.suite a ((a, oe) :: pn)) (b₀ :: suite) (tS (gE G ⟨i, a, x, cls, d⟩) W0 (rh x))) :
    PS X (.Try body [.ExceptHandler (some (.Name xn np)) (some n) (b₀ :: suite) pos'] [] [] pos) (tS G Wx (tryR cx c (some i) rb rh)) :=
  PS.weak (ps_tryAsP (Pre := fun _ _ _ _ _ => True) h0 hs hf hN hi hln hc tk hsub (fun W pn xe a b => PSs.weak (hb W pn xe a b) fun _ _ _ ⟨ρ, τ, o, _, h⟩ => ⟨ρ, τ, o, h⟩) hsu) fun _ _ _ ⟨ρ, τ, o, h⟩ => ⟨ρ, τ, o, trivial, h⟩
theorem ps_tryOnlyP {Pre : List Addr → Sg → List Ob → L2.St → Hp → Prop} (h0 : G.er = none) (hs : X.stack = X.env :: X.outer) (hf : X.env.frame = some X.env.locals) (hc : Names X xn cv) (tk : Takes X Wx) (hsub : SubOk G X.K cx c cv)
    (hb : ∀ (W : WX) (pn : List (Addr × Obj)) (xe : Value → Shared → Prop), Takes (X.tr pn xe) W → PassesOwn (model X.prog X.w) X.A X.env xe → PSs (X.tr pn xe) body (tSP Pre G W rb))
    (hsu : ∀ (a : Addr) (oe : Obj) (cls : Value) (d : Option Addr) (pn : List (Addr × Obj)) (x : Ex), Zc cls d oe → (∃ vs, oe.data = .fields vs) → PSs (X.suite a ((a, oe) :: pn)) (b₀ :: suite) (tS G W0 (rh x))) :
    PS X (.Try body [.ExceptHandler (some (.Name xn np)) none (b₀ :: suite) pos'] [] [] pos) (tSP Pre G Wx (tryR cx c none rb rh)) :=
  PS.weak (ps_try_only (Wout := Wx) (tb := fun W => tSP Pre G W rb) (ts := fun a cls d D σ H => ∃ x, tS G W0 (rh x) D σ H) hs hf hc tk hb
    (fun a oe cls d pn hz hv => ⟨fun pins s σ H D I ⟨x, q⟩ => (hsu a oe cls d pn x hz hv).run pins s σ H D I q⟩)) fun D σ H ⟨ρ, τ, o, hpre, b, l, q⟩ => by
    refine ⟨ρ, τ, o, hpre, b, l, ?_⟩
    unfold tryR at q
    cases z : rb τ o with
    | next _ _ => rw [z] at q; exact q
    | ret _ _ => rw [z] at q; exact q
    | brk _ _ => rw [z] at q; exact q
    | cont _ _ => rw [z] at q; exact q
    | bad => rw [z] at q; exact q
    | exc x τ1 o1 =>
      rw [z] at q
      intro cls d σ' H' hp
      have hp' := hp
      obtain ⟨ρ', p, s, b', l', C, hC, rfl, hx⟩ := hp
      refine ⟨cx.tab.sub x.c c, hsub x.c C hC.1 hC.2, fun hb a ha => ?_, fun hb => ?_⟩
      · simp only [hb, if_true] at q
        refine ⟨x, ρ', τ1, o1, b', l', ?_⟩
        cases y : rh x τ1 o1 with
        | next τ3 o3 => rw [y] at q; exact fun σ3 H3 hp3 => q _ _ (hp3.lift p s)
        | ret v o3 => rw [y] at q; exact fun u H3 hp3 => q _ _ (hp3.lift p s)
        | brk _ _ => rw [y] at q; exact q.elim
        | cont _ _ => rw [y] at q; exact q.elim
        | exc _ _ _ => rw [y] at q; exact q.elim
        | bad => rw [y] at q; exact q.elim
      · simp only [hb, Bool.false_eq_true, if_false] at q
        exact q _ _ _ _ hp'
theorem ps_tryOnlyE (h0 : G.er = none) (hs : X.stack = X.env :: X.outer) (hf : X.env.frame = some X.env.locals) (hc : Names X xn cv) (tk : Takes X Wx) (hsub : SubOk G X.K cx c cv)
    (hb : ∀ (W : WX) (pn : List (Addr × Obj)) (xe : Value → Shared → Prop), Takes (X.tr pn xe) W → PassesOwn (model X.prog X.w) X.A X.env xe → PSs (X.tr pn xe) body (tS G W rb))
    (hsu : ∀ (a : Addr) (oe : Obj) (cls : Value) (d : Option Addr) (pn : List (Addr × Obj)) (x : Ex), Zc cls d oe → (∃ vs, oe.data = .fields vs) → PSs (X.suite a ((a, oe) :: pn)) (b₀ :: suite) (tS G W0 (rh x))) :
    PS X (.Try body [.ExceptHandler (some (.Name xn np)) none (b₀ :: suite) pos'] [] [] pos) (tS G Wx (tryR cx c none rb rh)) :=
  PS.weak (ps_tryOnlyP (Pre := fun _ _ _ _ _ => True) h0 hs hf hc tk hsub (fun W pn xe a b => PSs.weak (hb W pn xe a b) fun _ _ _ ⟨ρ, τ, o, _, h⟩ => ⟨ρ, τ, o, h⟩) hsu) fun _ _ _ ⟨ρ, τ, o, h⟩ => ⟨ρ, τ, o, trivial, h⟩
end
end Mi
end
section
set_option linter.all false
set_option Elab.async false
set_option maxHeartbeats 2000000
set_option autoImplicit false
namespace Mi
open PySem PySem.Spec PyProof.Rows L2
/-- what is known of the program's errors -/
structure ErrG (G : Gx) : Prop where
  xf : ∀ k C, G.ga k = some C → G.isE k = true → XfC G.K C
  no : ∀ k C, G.ga k = some C → G.isE k = true → ∀ (f : Nat) (n : Str), G.names[f]? = some n → PySem.W.findIn G.K (.ref C) n = some none
  cl : ∀ k C, G.ga k = some C → G.isE k = true → PySem.W.findIn G.K (.ref C) "__class__" = some (some (.builtin "object.__class__")) ∧ PySem.W.specialIn G.K (.builtin "object.__class__") "__get__" = some (some (.builtin "getset_descriptor.__get__")) ∧
    PySem.W.takesIn G.K (.builtin "object.__class__") = some true ∧ PySem.W.mroIn G.K C (.type "object") = some true
/-- isinstance with the clause's classes -/
def KitOk (G : Gx) (cx : Cx) (c : Nat) (cv : Value) : Prop := ∀ k C, G.ga k = some C → G.isE k = true → PySem.W.kitOne G.K (.ref C) cv = some (cx.tab.sub k c)
section
variable {G : Gx} {X : L2.Cx} {pos p np : Pos} {cx : Cx} {i c f : Nat} {a : Addr} {oe : Obj} {x : Ex} {cls : Value} {d : Option Addr} {pn : List (Addr × Obj)} {n : Str} {ce : Expr} {cv : V} {u : Value}
def rIsX (K : PySem.W.Frag) (a : Addr) (cls : Value) (d : Option Addr) (C : Addr) (cv : V) (u : Value) : List V → Hp → VK → Prop := fun xs H Q => ∃ b, xs = [.ref a, cv] ∧ cls = .ref C ∧ (d = none ∨ ∃ dx fv, d = some dx ∧ H dx = some (.xd fv)) ∧ PySem.W.kitOne K (.ref C) u = some b ∧ Q (.bl b) H
theorem call_isX {C : Addr} (E : XfC X.K C) (h1 : PySem.W.findIn X.K (.ref C) "__class__" = some (some (.builtin "object.__class__")) ∧ PySem.W.specialIn X.K (.builtin "object.__class__") "__get__" = some (some (.builtin "getset_descriptor.__get__")) ∧
    PySem.W.takesIn X.K (.builtin "object.__class__") = some true ∧ PySem.W.mroIn X.K C (.type "object") = some true) (hz : Zc cls d oe) (hf : ∃ vs, oe.data = .fields vs) (hcv : ∀ w, RelV cv w → w = u) :
    CallR (X.suite a ((a, oe) :: pn)) (.builtin "isinstance") (rIsX X.K a cls d C cv u) := by
  intro pins s σ H xs us Q I r h
  obtain ⟨b, rfl, rfl, hd, e, q⟩ := h
  obtain ⟨ha, hn, ht, hm⟩ := h1
  cases r with
  | cons rx rr =>
    cases rr with
    | cons rt rr =>
      cases rr
      cases rx
      have ec := hcv _ rt
      subst ec
      obtain ⟨hget, _⟩ := I.pin (a, oe) (List.mem_append.mpr (.inl List.mem_cons_self))
      obtain ⟨vs, hv⟩ := hf
      have hcl : (PySem.W.clsIn X.K C).isSome = true := by
        have q := E.hdC
        unfold PySem.W.hasDictIn at q
        cases z : PySem.W.clsIn X.K C with
        | none => rw [z] at q; cases q
        | some _ => rfl
      obtain ⟨od, J⟩ : ∃ od, PySem.W.InstAt s.heap a oe C od := by
        obtain ⟨oc, odd, oda, osl⟩ := oe
        obtain ⟨z1, z2⟩ := hz
        dsimp only at z1 z2 hv
        subst z1 z2 hv
        rcases hd with rfl | ⟨dx, fv, rfl, hx⟩
        · exact ⟨none, hget, rfl, rfl, trivial⟩
        · obtain ⟨mA, ⟨od, es, ep, e1, e2⟩, _⟩ := (show ObjOk X.prog X.w H s.heap dx (.xd fv) from I.hok dx _ hx)
          exact ⟨some od, hget, rfl, rfl, e1⟩
      exact PySem.W.kia_one (PySem.W.kitx_exc (od := od) hcl E.ga E.gg E.exC ha hn ht hm) I.kIn J e (fun z => nomatch z) fun tk => ⟨.bl b, H, I.kept (t' := tk) fun _ _ z => z, rfl, q⟩
theorem ee_exis (hK : X.K = G.K) (E : ErrG G) (K : KitOk G cx c u) (hz : Zc cls d oe) (hf : ∃ vs, oe.data = .fields vs) (hcv : ∀ w, RelV cv w → w = u) (hN : X.N[i]? = some n) (hv : Vis X.env.scope n) (hd1 : (n == ("__debug__" : Str)) = false) (hd2 : (n == ("__classdict__" : Str)) = false)
    (hg : Gl X "isinstance") (hm : X.mg "isinstance" = none) (hc : PE (X.suite a ((a, oe) :: pn)) ce (tC cv)) (hs : isStar ce = false) :
    EE (gE G ⟨i, a, x, cls, d⟩) (X.suite a ((a, oe) :: pn)) W0 (.Call (.Name "isinstance" p) [.Name n np, ce] [] pos) (fun _ o => .ok (wd (.bl (cx.tab.sub x.c c))) o) := by
  have hvar : PE (X.suite a ((a, oe) :: pn)) (.Name n np) (tVar i) := pe_var hN hv hd1 hd2
  refine EE.of (PE.weak (t := fun σ H Q => ∃ C, (XfC X.K C ∧ (PySem.W.findIn X.K (.ref C) "__class__" = some (some (.builtin "object.__class__")) ∧ PySem.W.specialIn X.K (.builtin "object.__class__") "__get__" = some (some (.builtin "getset_descriptor.__get__")) ∧
    PySem.W.takesIn X.K (.builtin "object.__class__") = some true ∧ PySem.W.mroIn X.K C (.type "object") = some true)) ∧ tCB (rIsX X.K a cls d C cv u) (tCons (tVar i) (tCons (tC cv) tNil)) σ H Q) ⟨fun pins s σ H Q I ⟨C, ⟨e1, e2⟩, q⟩ => ?_⟩ fun σ H Q h => ?_) rfl
  · exact (pe_callB (X := X.suite a ((a, oe) :: pn)) (call_isX e1 e2 hz hf hcv) hg hm (by first | rfl | decide +kernel) (pa_cons hvar (pa_cons hc pa_nil (starEach_ok hs _)) (by rfl)) (by decide) (by decide) (by rfl) (by rw [starEach_ok hs]; rfl)).run pins s σ H Q I q
  · obtain ⟨ρ, τ, o, b, l, h⟩ := h
    have rx := b.er _ rfl
    obtain ⟨C, hC, ecls, hx⟩ := rx
    have es := l.er _ rfl
    refine ⟨C, ⟨by rw [hK]; exact E.xf _ C hC.1 hC.2, by rw [hK]; exact E.cl _ C hC.1 hC.2⟩, _, es, cx.tab.sub x.c c, rfl, ecls, ?_, by rw [hK]; exact K _ C hC.1 hC.2, h _ _ (post_same b (.bl _))⟩
    rcases hx with ⟨_, hx⟩ | ⟨dx, fv, h1, h2, _⟩
    · exact .inl hx
    · exact .inr ⟨dx, fv, h1, h2⟩
theorem ee_exat {fn : Str} (hK : X.K = G.K) (hnd : G.names.Nodup) (E : ErrG G) (hfn : G.names[f]? = some fn) (hz : Zc cls d oe) (hf : ∃ vs, oe.data = .fields vs) (hN : X.N[i]? = some n) (hv : Vis X.env.scope n) (hd1 : (n == ("__debug__" : Str)) = false) (hd2 : (n == ("__classdict__" : Str)) = false) :
    EE (gE G ⟨i, a, x, cls, d⟩) (X.suite a ((a, oe) :: pn)) W0 (.Attribute (.Name n np) fn pos) (fun _ o => okO ((lookN f x.fs).map wd) o) := by
  have hvar : PE (X.suite a ((a, oe) :: pn)) (.Name n np) (tVar i) := pe_var hN hv hd1 hd2
  refine EE.of (PE.weak (t := fun σ H Q => ∃ C, (XfC X.K C ∧ PySem.W.findIn X.K (.ref C) fn = some none) ∧ tXf a cls d C fn (tVar i) σ H Q) ⟨fun pins s σ H Q I ⟨C, ⟨e1, e2⟩, q⟩ => ?_⟩ fun σ H Q h => ?_) rfl
  · exact (pe_xf e1 e2 hz hf hvar (by rfl)).run pins s σ H Q I q
  · obtain ⟨ρ, τ, o, b, l, h⟩ := h
    have rx := b.er _ rfl
    obtain ⟨C, hC, ecls, hx⟩ := rx
    have es := l.er _ rfl
    obtain ⟨val, ev, h⟩ := RP.okO h
    cases z : lookN f x.fs with
    | none => rw [z] at ev; cases ev
    | some dv =>
      rw [z] at ev; cases ev
      rcases hx with ⟨hx, _⟩ | ⟨dx, fv, h1, h2, h3⟩
      · rw [hx] at z; simp [lookN] at z
      · obtain ⟨v, hl, rv⟩ := rdf_look (G := gE G ⟨i, a, x, cls, d⟩) hnd hfn h3 z
        exact ⟨C, ⟨by rw [hK]; exact E.xf _ C hC.1 hC.2, by rw [hK]; exact E.no _ C hC.1 hC.2 f fn hfn⟩, _, es, rfl, ecls, dx, fv, v, h1, h2, hl, h _ _ (post_same b rv)⟩
end
end Mi
end
section
set_option linter.all false
set_option Elab.async false
set_option maxHeartbeats 2000000
set_option autoImplicit false
namespace Mi
open PySem L2
section
variable {G : Gx} {X : L2.Cx} {Wx : WX}
theorem reprD_ok {x : D} {s : Str} (h : reprD x = some s) : plain 60 x = true ∧ (toPy x).showable = true ∧ (toPy x).shown.length ≤ sizeLine ∧ s = (toPy x).shown := by
  unfold reprD at h
  split at h
  · rename_i c
    cases h
    obtain ⟨c1, c2⟩ := bools_and c
    obtain ⟨c3, c4⟩ := bools_and c1
    exact ⟨c3, c4, by rw [sizeLine_eq]; exact of_decide_eq_true c2, rfl⟩
  · cases h
theorem cb_repr (hK : X.K = G.K) (hg : X.A.guards = some []) (hu : X.A.units + 65 < cLine) : CallR X (.builtin "repr") (rDs G (biD Bi.repr)) := by
  intro pins s σ H xs us Q I r h
  obtain ⟨ρ, o, ds, val, b, hv, e, w⟩ := h
  replace e : biRepr ds = some val := e
  unfold biRepr at e
  split at e
  · rename_i x
    obtain ⟨v, rfl, hd⟩ := vds1 hv rfl
    obtain ⟨u, rfl, ru⟩ := vals1 r
    cases z : reprD x with
    | none => rw [z] at e; cases e
    | some t =>
      rw [z] at e; cases e
      obtain ⟨p1, p2, p3, rfl⟩ := reprD_ok z
      have fin : ∀ (h' : Heap) (tk : Nat) (k : Tok), (∀ b o, s.heap.get? b = some o → h'.get? b = some o) → EP X pins σ Q (.str (toPy x).shown k) { s with heap := h', toks := tk } := fun h' tk k hk =>
        ⟨.str (toPy x).shown, H, I.kept (t' := tk) hk, ⟨_, rfl⟩, w _ _ (post_same b (.str _))⟩
      have viaRef : ∀ a, u = .ref a → wpAny (model X.prog X.w) X.A (call (.builtin "repr") [u]) (EP X pins σ Q) X.xe s := by
        rintro a rfl
        obtain ⟨as, hr⟩ := dp_readsV hK I p1 hd ru
        have hdp := toPy_depth 60 x p1
        refine repr_of_reads' hr p2 (PyData.noDict_hsm (PyData.hasDict_of_canLay _ (toPy_lay 60 x p1))) hg (by omega) (fun _ _ q => q) (fun h' u tk hk => fin h' tk u hk) p3
      cases x with
      | non =>
        cases hd; cases ru
        simp only [toPy, PyData.shown] at fin p3
        exact P.repr_of_none (fin _ _ _ fun _ _ q => q)
      | bl k =>
        cases hd; cases ru
        simp only [toPy, PyData.shown] at fin p3
        exact P.repr_of_bool (fin _ _ _ fun _ _ q => q)
      | int i =>
        cases hd
        obtain ⟨t, rfl⟩ := ru
        simp only [toPy, PyData.shown] at fin p3
        have p2 : i.natAbs.log2 < 1920 := by simpa [toPy, PyData.showable] using p2
        exact P.repr_of_int p2 (fin _ _ _ fun _ _ q => q)
      | str y =>
        cases hd
        obtain ⟨t, rfl⟩ := ru
        simp only [toPy, PyData.shown] at fin p3
        exact P.repr_of_str (fin _ _ _ fun _ _ q => q) p3
      | lst ys =>
        obtain ⟨a, vs, rfl, _⟩ := hd
        exact viaRef a ru
      | tup ys =>
        cases hd with
        | tup ha da ra => exact viaRef _ ru
      | _ => simp [plain] at p1
  · cases e
end
end Mi
end
section
set_option linter.all false
set_option Elab.async false
set_option maxHeartbeats 2000000
set_option autoImplicit false
namespace Mi
open PySem PySem.Spec PyProof.Rows L2
section
variable {X : L2.Cx} {CX : CXT} {k : Nat} {f C : Addr} {fd : FuncData} {ps : List Str} {sp : Sp} {E : L2.St → XK} {x : Str} {p pos : Pos} {e : Expr} {es : List Expr} {t : TA}
theorem run_makeG {pins : List (Addr × Obj)} {σ : L2.St} {H : Hp} {s : Shared} {Q : VK} {us : List Value} {vs : List V} (M : Mk X.K C f) (F : FnG X.prog X.w X.K X.mg X.base CX k f fd ps sp) (hr : RoomG (k + 1) X.A) (hb : Binds X.K fd ps [])
    (hx : PassesAt CX X σ (E σ)) (I : L2.Inv X pins σ H s) (r : Vals vs us)
    (h : ∀ x dx, H x = none → H dx = none → dx ≠ x → sp (.ref x :: vs) (L2.upd (L2.upd H dx (.own x)) x (.ins C dx [])) (fun v H2 => v = .non ∧ Q (.ref x) H2) (E σ)) :
    wpAny (model X.prog X.w) X.A (call (.ref C) us) (EP X pins σ Q) X.xe s := by
  have hq := h (s.heap.objs.size + 1) s.heap.objs.size (I.hok.fresh (Nat.le_succ _)) (I.hok.fresh (Nat.le_refl _)) (Nat.ne_of_lt (Nat.lt_succ_self _))
  have I2 := Inv.made (C := C) I
  have r2 : Vals (V.ref (s.heap.objs.size + 1) :: vs) (Value.ref (s.heap.objs.size + 1) :: us) := .cons rfl r
  have hl : (Value.ref (s.heap.objs.size + 1) :: us).length = ps.length := by
    have e := r2.length
    rw [F.len _ _ _ _ hq] at e
    exact e.symm
  have b := hb _ (Value.ref (s.heap.objs.size + 1) :: us) I2.kIn (by rw [List.append_nil]; exact hl)
  rw [List.append_nil] at b
  refine wpAny_call (make_map (f := f) I.kIn M.makes M.init (beq_iff_eq.mp M.fn) (codeAny_mono (F.run _ X.stack _ _ ⟨Value.ref (s.heap.objs.size + 1) :: us, []⟩ (Value.ref (s.heap.objs.size + 1) :: us) _ _ (E σ) (hr.make C us [])
    (I2.env0.make C us []) b r2 hq) fun r s' hq' => ?_))
  cases r with
  | error e => exact hx pins _ _ e s' I2 hq'
  | ok fl =>
    cases fl with
    | ret u =>
      obtain ⟨v, H', I3, rv, ev, q3⟩ := I2.after hq'
      subst ev
      exact ⟨rv, ⟨V.ref (s.heap.objs.size + 1), H', I3, rfl, q3⟩⟩
    | next => exact False.elim hq'
    | brk => exact False.elim hq'
    | cont => exact False.elim hq'
def tMakeG (C : Addr) (sp : Sp) (E : L2.St → XK) (t : TA) : TE := fun σ H Q => t σ H fun vs H1 => ∀ x dx, H1 x = none → H1 dx = none → dx ≠ x → sp (.ref x :: vs) (L2.upd (L2.upd H1 dx (.own x)) x (.ins C dx [])) (fun v H2 => v = .non ∧ Q (.ref x) H2) (E σ)
theorem pe_makeG (M : Mk X.K C f) (F : FnG X.prog X.w X.K X.mg X.base CX k f fd ps sp) (hr : RoomG (k + 1) X.A) (hg : Gl X x) (hm : X.mg x = some (.ref C)) (hb : Binds X.K fd ps []) (hx : ∀ σ, PassesAt CX X σ (E σ))
    (ha : PA X (e :: es) t) (hs : (e :: es).all (fun e => !isStar e) = true) (hdb : (x == ("__debug__" : Str)) = false) : PE X (.Call (.Name x p) (e :: es) [] pos) (tMakeG C sp E t) := by
  refine ⟨fun pins s σ H Q I h => ?_⟩
  refine wpAny_Call_Name_kw (ld_glob I hg hm ?_ hdb)
  rw [List.all_cons] at hs
  obtain ⟨hs1, hs2⟩ := Bool.and_eq_true_iff.mp hs
  have hs1 : isStar e = false := by simpa using hs1
  refine PySem.W.callWith_K (h₀ := X.base) I.ok.mod.kin M.kp (thn (ha.run pos pins s σ H _ I h) fun us s1 ⟨vs, H1, I1, r, q⟩ => ⟨I1.kIn, ?_⟩) (starEach_ok hs1 X.env) (back_any pos hs2)
  exact run_makeG M F hr hb (hx σ) I1 r q
theorem pe_makeG0 (M : Mk X.K C f) (F : FnG X.prog X.w X.K X.mg X.base CX k f fd ps sp) (hr : RoomG (k + 1) X.A) (hg : Gl X x) (hm : X.mg x = some (.ref C)) (hb : Binds X.K fd ps []) (hx : ∀ σ, PassesAt CX X σ (E σ))
    (hdb : (x == ("__debug__" : Str)) = false) : PE X (.Call (.Name x p) [] [] pos) (tMakeG C sp E tNil) := by
  refine ⟨fun pins s σ H Q I h => ?_⟩
  refine wpAny_Call_Name_kw (ld_glob I hg hm ?_ hdb)
  exact PySem.W.callWith_K0 I.kIn M.kp (run_makeG (us := []) M F hr hb (hx σ) I .nil h)
end
section
variable {G : Gx} {X : L2.Cx} {Wx : WX} {pos p : Pos} {e : Expr} {es : List Expr} {r : Sg → List Ob → R (List W)} {cx : Cx} {k n c : Nat} {f C : Addr} {fd : FuncData} {ps : List Str} {x : Str} {cl : Cl} {fi : Nat}
theorem mk_sp {σ : L2.St} {H : Hp} {Q : VK} {vs : List V} (h0 : G.er = none) (hga : G.ga c = some C ∧ G.isC c = true) (hcl : cx.tab.cl c = some cl) (hin : cl.init = some fi) (hn : ∀ ws o, cx.cal fi none ws o ≠ .bad → ws.length = n)
    (h : ∃ ρ o τ ws, At G σ ρ H o τ ∧ RWs G ρ ρ H ws vs ∧ RP G Wx ρ H σ (WantV G ρ H Q) (mkR cx c ws o)) (x dx : Addr) (hx : H x = none) (hdx : H dx = none) (ne : dx ≠ x) :
    spM G (fun ws o => cx.cal fi none ws o) n (.ref x :: vs) (L2.upd (L2.upd H dx (.own x)) x (.ins C dx [])) (fun v H2 => v = .non ∧ Q (.ref x) H2) (WE Wx σ) := by
  obtain ⟨ρ, o, τ, ws, at_, rws, q⟩ := h
  have b := at_.ob
  have hlen := b.len
  have hx2 : L2.upd H dx (.own x) x = none := by rw [upd_ne (Ne.symm ne)]; exact hx
  have s : Stp ρ H (ρ ++ [x]) (L2.upd (L2.upd H dx (.own x)) x (.ins C dx [])) := by
    have s1 : Stp ρ H ρ (L2.upd H dx (.own x)) := Stp.new hdx
    have s2 : Stp ρ (L2.upd H dx (.own x)) (x :: ρ) (L2.upd (L2.upd H dx (.own x)) x (.ins C dx [])) := Stp.newL hx2
    exact (s1.trans s2).sub fun a m => by
      rcases List.mem_append.mp m with m | m
      · exact List.mem_cons_of_mem _ m
      · rw [show a = x by simpa using m]; exact List.mem_cons_self
  have kk : ∀ a u, H a = some u → L2.upd (L2.upd H dx (.own x)) x (.ins C dx []) a = some u := fun a u h => keepN hx2 a u (keepN hdx a u h)
  have nx : x ∉ ρ := b.zm.fresh hx
  have pre : ρ <+: ρ ++ [x] := List.prefix_append _ _
  have mutK : ∀ a, Mut (H a) → Mut (L2.upd (L2.upd H dx (.own x)) x (.ins C dx []) a) := fun a q => by
    cases e : H a with
    | none => rw [e] at q; exact q.elim
    | some u => rw [e] at q; rw [kk a u e]; exact q
  have b2 : Obs G (ρ ++ [x]) (ρ ++ [x]) (L2.upd (L2.upd H dx (.own x)) x (.ins C dx [])) (o ++ [.ins c []]) := by
    refine ⟨fun a m => m, ?_, by simp [hlen], fun a m => ?_, fun m u a e1 e2 => ?_, fun a m => ⟨mutK a (b.av a m).1, fun z => ?_⟩, fun e he => by rw [h0] at he; cases he⟩
    · rw [List.nodup_append]
      exact ⟨b.nd, by simp, fun y hy z hz e => nx (by
        have : z = x := by simpa using hz
        rw [← this, ← e]; exact hy)⟩
    · rcases List.mem_append.mp m with m | m
      · exact mutK a (b.zm a m)
      · rw [show a = x by simpa using m, upd_same]; trivial
    · by_cases hm : m < o.length
      · rw [List.getElem?_append_left hm] at e1
        rw [List.getElem?_append_left (by rw [hlen]; exact hm)] at e2
        exact (b.ob m u a e1 e2).to (fun u e => kk _ _ e) (fun _ _ _ r => RW.step pre s b.zm r) (fun _ t => tab_keep t (fun u e => kk _ _ e) (fun c f e => kk _ _ e)) rfl rfl rfl rfl rfl
      · have hm2 : m = o.length := by
          have := (List.getElem?_eq_some_iff.mp e1).1
          simp at this
          omega
        subst hm2
        rw [List.getElem?_append_right (Nat.le_refl _)] at e1
        rw [List.getElem?_append_right (by rw [hlen]; exact Nat.le_refl _), hlen] at e2
        simp at e1 e2
        subst e1 e2
        exact ⟨C, dx, [], upd_same, hga, .nil, fun p hp => by cases hp⟩
    · rcases List.mem_append.mp z with z | z
      · exact (b.av a m).2 z
      · have : a = x := by simpa using z
        have q := (b.av a m).1
        rw [this, hx] at q; exact q
  have rx : RW G (ρ ++ [x]) (ρ ++ [x]) (L2.upd (L2.upd H dx (.own x)) x (.ins C dx [])) (.loc o.length) (.ref x) := ⟨x, by rw [← hlen, List.getElem?_append_right (Nat.le_refl _)]; simp, rfl⟩
  have q : RP G Wx ρ H σ (WantV G ρ H Q) (mkR cx c ws o) := q
  unfold mkR at q
  rw [hcl] at q
  obtain ⟨ini, eqm, mu, ex⟩ := cl
  simp only at hin
  subst hin
  simp only at q
  have nb : cx.cal fi none (.loc o.length :: ws) (o ++ [.ins c []]) ≠ .bad := fun z => by rw [z] at q; exact q.elim
  have hl := hn _ _ nb
  refine ⟨by rw [List.length_cons, ← rws.length]; exact hl, G.av, ρ ++ [x], o ++ [.ins c []], .loc o.length :: ws, b2, .cons rx (rws.step pre s b.zm), ?_⟩
  have tk : ∀ {ρ2 : List Addr} {o2 : List Ob} {H2 : Hp}, ρ ++ [x] <+: ρ2 → Obs G ρ2 ρ2 H2 o2 → Obs G ρ ρ H2 (o2.take o.length) := by
    intro ρ2 o2 H2 p2 bb
    have b3 := bb.takeS o.length
    rw [← hlen, pre_take (pre.trans p2)] at b3
    rw [← hlen]
    exact b3
  show RC _ _ _ _ _ (cx.cal fi none (.loc o.length :: ws) (o ++ [.ins c []]))
  cases z : cx.cal fi none (.loc o.length :: ws) (o ++ [.ins c []]) with
  | bad => exact absurd z nb
  | exc e o2 =>
    rw [z] at q
    intro cls d H2 hp
    obtain ⟨ρ2, p2, s2, bb, xx⟩ := hp
    refine q cls d H2 ⟨ρ, List.prefix_rfl, (s.trans s2).sub fun a m => (pre.trans p2).subset m, tk p2 bb, xx.less fun a m => (pre.trans p2).subset m⟩
  | ok val o2 =>
    rw [z] at q
    intro v H2 hp
    have hval : val = .w (.d .non) := by
      rcases val with w | ws'
      · rcases w with d | j
        · cases d <;> first | rfl | exact False.elim q
        · exact False.elim q
      · exact False.elim q
    subst hval
    obtain ⟨ρ2, p2, s2, bb, rv⟩ := hp
    cases rv
    refine ⟨rfl, ?_⟩
    have ex2 : ρ2[o.length]? = some x := pre_get p2 (by rw [← hlen, List.getElem?_append_right (Nat.le_refl _)]; simp)
    cases mu with
    | true =>
      simp only [if_true] at q
      refine q _ _ ⟨ρ ++ [x], pre, (s.trans s2).sub fun a m => p2.subset m, ?_, ⟨x, by rw [← hlen, List.getElem?_append_right (Nat.le_refl _)]; simp, rfl⟩⟩
      have b3 := bb.takeS (o.length + 1)
      have e3 : ρ2.take (o.length + 1) = ρ ++ [x] := by
        have := pre_take p2
        rw [List.length_append, hlen] at this
        exact this
      rw [e3] at b3
      exact b3
    | false =>
      simp only [Bool.false_eq_true, if_false] at q
      cases y : o2[o.length]? with
      | none => rw [y] at q; exact False.elim q
      | some ob =>
        rw [y] at q
        have rb := bb.ob o.length ob x y ex2
        cases ob with
        | ins c' fs =>
          simp only at q
          cases w : allDfs fs with
          | none => rw [w] at q; exact False.elim q
          | some gs =>
            rw [w] at q
            obtain ⟨C', dx', fv, h1, h2, h3, _⟩ := rb
            refine q _ _ ⟨ρ, List.prefix_rfl, (s.trans s2).sub fun a m => (pre.trans p2).subset m, tk p2 bb, ?_⟩
            exact .obj h1 ⟨nx, fun m => (bb.av x m).2 (mem_of_get ex2)⟩ h2 (RDf.less (fun a m => (pre.trans p2).subset m) (rdf_of w h3))
        | _ => exact False.elim q
theorem ee_mk (h0 : G.er = none) (hga : G.ga c = some C ∧ G.isC c = true) (hcl : cx.tab.cl c = some cl) (hin : cl.init = some fi) (M : Mk X.K C f) (F : FnG X.prog X.w X.K X.mg X.base (L2.CX X.prog X.w) k f fd ps (spM G (fun ws o => cx.cal fi none ws o) n)) (hn : ∀ ws o, cx.cal fi none ws o ≠ .bad → ws.length = n)
    (hr : RoomG (k + 1) X.A) (hg : Gl X x) (hm : X.mg x = some (.ref C)) (hb : Binds X.K fd ps []) (tk : Takes X Wx) (ha : PA X (e :: es) (tA G Wx r)) (hs : (e :: es).all (fun e => !isStar e) = true) (hdb : (x == ("__debug__" : Str)) = false) :
    EE G X Wx (.Call (.Name x p) (e :: es) [] pos) (fun τ o => bnd (r τ o) fun ws o1 => mkR cx c ws o1) :=
  EE.of (PE.weak (pe_makeG M F hr hg hm hb (fun σ => passAt tk σ) ha hs hdb) fun σ H Q h => (tA_one (f := fun _ ws o => mkR cx c ws o) h).mono fun vs H1 q x dx h1 h2 h3 => mk_sp h0 hga hcl hin hn q x dx h1 h2 h3) rfl
end
end Mi
end
section
set_option linter.all false
set_option Elab.async false
set_option maxHeartbeats 2000000
set_option autoImplicit false
namespace Mi
open PySem PySem.Spec PyProof.Rows L2
/-! ### the own == of a class -/
structure OwnQ (G : Gx) (C f : Addr) : Prop where
  fq : PySem.W.findIn G.K (.ref C) "__eq__" = some (some (.ref f))
  isf : PySem.W.isFn G.K (.ref f) = true
  fnq : PySem.W.findIn G.K (.ref C) "__ne__" = some (some (.builtin "object.__ne__"))
  sub : PySem.W.subIn G.K (.ref C) (.type "object") = some true
  nf : ∀ T ∈ ["NoneType", "bool", "int", "str", "tuple", "list", "dict"], PySem.W.notFirst G.K C (.type T) = true
  nc : ∀ c' C', G.ga c' = some C' → G.isC c' = true → PySem.W.notFirst G.K C (.ref C') = true
section
variable {G : Gx} {X : L2.Cx} {k : Nat} {C f : Addr} {fd : FuncData} {ps : List Str} {cal : List W → List Ob → R Val} {cx : Cx}
/-- the type of what a plain look may find -/
theorem ty_deep (hK : X.K = G.K) (CO : ClsOk G) {zs : List Addr} {H : Hp} {x : D} {v : V} (r : RD G zs H x v) (hg : ∀ n, x ≠ .glo n) : ∃ t, TyX X.K H v t ∧ ((∃ T ∈ ["NoneType", "bool", "int", "str", "tuple", "list", "dict"], t = .type T) ∨ ∃ c' C', G.ga c' = some C' ∧ G.isC c' = true ∧ t = .ref C') := by
  cases r with
  | non => exact ⟨_, .base .non, .inl ⟨_, by simp, rfl⟩⟩
  | bl b => exact ⟨_, .base (.bl _), .inl ⟨_, by simp, rfl⟩⟩
  | int i => exact ⟨_, .base (.int _), .inl ⟨_, by simp, rfl⟩⟩
  | str s => exact ⟨_, .base (.str _), .inl ⟨_, by simp, rfl⟩⟩
  | lst h n rr => exact ⟨_, rd_list (X := X) h, .inl ⟨_, by simp, rfl⟩⟩
  | tup h d rr => exact ⟨_, .fTuple h, .inl ⟨_, by simp, rfl⟩⟩
  | glo h => exact absurd rfl (hg _)
  | obj h n c rr => exact ⟨_, tyX_ins hK CO h c, .inr ⟨_, _, c.1, c.2, rfl⟩⟩
  | dct h n d rr => exact ⟨_, rd_dict (X := X) h d, .inl ⟨_, by simp, rfl⟩⟩
theorem PostV.bl {ρ : List Addr} {H H' : Hp} {o1 : List Ob} {p q : Bool} (h : PostV G ρ H (wd (.bl p)) o1 (.bl p) H') : PostV G ρ H (wd (.bl q)) o1 (.bl q) H' := by
  obtain ⟨ρ', a, b, c, rw⟩ := h
  exact ⟨ρ', a, b, c, .bl q⟩
theorem own_call {pins : List (Addr × Obj)} {σ : L2.St} {H : Hp} {s : Shared} {A : Around} {ρ : List Addr} {o o1 : List Ob} {wx wy : W} {x y : V} {ux uy : Value} {b : Bool} (F : FnG X.prog X.w X.K X.mg X.base (L2.CX X.prog X.w) k f fd ps (spM G cal 2)) (hr : RoomG k A) (hfr : A.frames = X.A.frames) (hb : Binds X.K fd ps [])
    (I : L2.Inv X pins σ H s) (rx : RelV x ux) (ry : RelV y uy) (ob : Obs G ρ ρ H o) (hx : RW G ρ ρ H wx x) (hy : RW G ρ ρ H wy y) (e : cal [wx, wy] o = .ok (wd (.bl b)) o1) :
    wpAny (model X.prog X.w) A (call (.ref f) [ux, uy]) (fun u s' => u = .bool b ∧ ∃ H', L2.Inv X pins σ H' s' ∧ PostV G ρ H (wd (.bl b)) o1 (.bl b) H') X.xe s := by
  have r2 : Vals [x, y] [ux, uy] := .cons rx (.cons ry .nil)
  have hsp : spM G cal 2 [x, y] H (fun v H' => PostV G ρ H (wd (.bl b)) o1 v H') (fun _ _ _ => False) := ⟨rfl, G.av, ρ, o, [wx, wy], ob, .cons hx (.cons hy .nil), by rw [e]; exact fun v H' p => p⟩
  have hl := F.len _ _ _ _ hsp
  have e0 : Env0 X.prog X.w X.K X.mg X.base A X.stack s H := by
    have e := I.env0
    exact ⟨by rw [hfr]; exact e.frames, e.mod, e.bs, e.bsz, e.funs, e.frf, e.hok, e.bare⟩
  refine wpAny_call (codeAny_mono (F.run A X.stack s H ⟨[ux, uy], []⟩ [ux, uy] [x, y] _ (fun _ _ _ => False) hr e0 (by
    have := hb s [ux, uy] I.kIn (by simpa using hl)
    simpa using this) r2 hsp) fun r s' hq => ?_)
  cases r with
  | error e =>
    obtain ⟨_, _, _, _, _, _, _, _, _, _, _, _, q⟩ := hq
    exact False.elim q
  | ok fl =>
    cases fl with
    | ret u =>
      obtain ⟨v, H', I', rz, p⟩ := I.after hq
      have hv : v = .bl b := by
        obtain ⟨ρ', _, _, _, rw⟩ := p
        cases rw
        rfl
      subst hv
      cases rz
      exact ⟨rfl, H', I', p⟩
    | next => exact False.elim hq
    | brk => exact False.elim hq
    | cont => exact False.elim hq
theorem ne_slot : Slot "object" "__ne__" "object.__ne__" :=
  Slot.of (T := "object") (name := "__ne__") (owner := "object") (n := "__ne__") (by rw [typeLookup_type, builtinLookup_eq_fast]; kernel_rfl) (by decide +kernel) (by decide +kernel) (by decide +kernel)
    (.inl (by decide +kernel)) (by rw [isSubtype_type]; kernel_rfl)
structure OwnF (G : Gx) (X : L2.Cx) (cx : Cx) (k : Nat) : Prop where
  f : ∀ c C, G.ga c = some C → G.isC c = true → ∀ g, (cx.tab.cl c).bind (·.eqm) = some g → ∃ f fd ps, OwnQ G C f ∧ Binds X.K fd ps [] ∧ FnG X.prog X.w X.K X.mg X.base (L2.CX X.prog X.w) k f fd ps (spM G (fun ws o => cx.cal g none ws o) 2)
/-- the class, the address, the type of the other -/
theorem own_look {pins : List (Addr × Obj)} {σ : L2.St} {H : Hp} {s : Shared} {ρ : List Addr} {o : List Ob} {wx wy : W} {x y : V} {u : Value} {c : Nat} {fs : List (Nat × D)} {q : D} (hK : X.K = G.K) (CO : ClsOk G) (I : L2.Inv X pins σ H s) (b : Obs G ρ ρ H o) (hx : RW G ρ ρ H wx x) (hy : RW G ρ ρ H wy y) (ry : RelV y u)
    (dx : deep o 60 wx = some (.obj c fs)) (dy : deep o 60 wy = some q) (hng : ∀ n, q ≠ .glo n) : ∃ a C, x = .ref a ∧ G.ga c = some C ∧ G.isC c = true ∧ (∃ ox od, PySem.W.InstAt s.heap a ox C od) ∧ ∀ f, OwnQ G C f → ∃ tb, PySem.W.Looks (model X.prog X.w) s.heap (typeOf u) tb ∧ PySem.W.notFirst X.K C tb = true := by
  have r1 := deep_ok b 60 dx hx
  have r2 := deep_ok b 60 dy hy
  cases r1 with
  | @obj _ _ a C dxx fv ha na hc rf =>
    obtain ⟨mA, J, _⟩ := ins_get I.hok ha
    obtain ⟨od, J, _⟩ := J.look
    refine ⟨a, C, rfl, hc.1, hc.2, ⟨_, _, J⟩, fun f O => ?_⟩
    obtain ⟨t, ty, hT⟩ := ty_deep hK CO r2 hng
    obtain ⟨P, Z, hp, _⟩ := kit_of I ry ty
    refine ⟨t, Z.ty _ _ I.kIn hp, ?_⟩
    rw [hK]
    rcases hT with ⟨T, m, rfl⟩ | ⟨c', C', h1, h2, rfl⟩
    · exact O.nf T m
    · exact O.nc c' C' h1 h2
theorem eqOwn_ok {neg : Bool} {c : Nat} {a b : W} {o o1 : List Ob} {v : Val} (e : eqOwn cx neg c a b o = .ok v o1) : ∃ g k, (cx.tab.cl c).bind (·.eqm) = some g ∧ cx.cal g none [a, b] o = .ok (wd (.bl k)) o1 ∧ v = wd (.bl (if neg then !k else k)) := by
  unfold eqOwn at e
  split at e
  · rename_i g _ _ h
    split at e
    · rename_i k o2 z
      cases e
      exact ⟨g, k, by simp_all, z, rfl⟩
    · cases e
  · cases e
theorem op_ownEq (hK : X.K = G.K) (CO : ClsOk G) (F : OwnF G X cx k) (hr : RoomG (k + 1) X.A) : OpR X (compareOp .Eq) (rOwnEq G cx false) := by
  intro pins s σ H x y v u Q I rx ry h
  obtain ⟨ρ, o, wx, wy, val, o', b, hx, hy, ⟨c, fs, q, dx, dy, hng, e⟩, w⟩ := h
  obtain ⟨a, C, rfl, hc, hi, ⟨ox, od, J⟩, L⟩ := own_look hK CO I b hx hy ry dx dy hng
  obtain ⟨g, kk, hg, hcal, rfl⟩ := eqOwn_ok e
  obtain ⟨f, fd, ps, O, hb, FF⟩ := F.f c C hc hi g hg
  obtain ⟨tb, lt, nf⟩ := L f O
  cases rx
  obtain ⟨m, hF⟩ := I.fr
  show wpAny (model X.prog X.w) X.A (richCompare .Eq (.ref a) u) (EP X pins σ Q) X.xe s
  refine PySem.W.cmp_K (op := .Eq) (tb := tb) hr.room.units0 hF I.ok.mod.kin J lt nf (by rw [hK]; exact O.fq) (by rw [hK]; exact O.isf) ?_
  refine wpAny_mono (own_call (x := .ref a) FF (hr.mono (Nat.le_succ k)) rfl hb I rfl ry b hx hy hcal) (fun r s' z => ?_) fun _ _ z => z
  obtain ⟨rfl, H', I', p⟩ := z
  exact ⟨.bl kk, H', I', rfl, w _ _ p⟩
theorem check_slotK {M : Model} {A : Around} {E : Value → Shared → Prop} {s : Shared} {K : PySem.W.Frag} {a C : Addr} {ox : Obj} {od : Option Obj} {u : Value} {Q : Unit → Shared → Prop} (KX : K.In s.heap) (J : PySem.W.InstAt s.heap a ox C od) (hs : PySem.W.subIn K (.ref C) (.type "object") = some true)
    (hq : Q () s) : wpAny M A (checkBuiltinCall "object.__ne__" ⟨[.ref a, u], []⟩) Q E s := by
  have ha := PySem.F.cmpArgs_ne (.ref a) u
  simp only [checkBuiltinCall, PySem.F.cmpKind_ne, PySem.F.cmpSplit_ne]
  refine wpAny_bind ?_
  refine wpAny_bind ?_
  refine J.type.here ((PySem.W.looks_subIn KX hs).here ?_)
  simp only [Bool.not_true, Bool.false_eq_true, if_false]
  cases hsig : Manifest.signature? "object.__ne__" with
  | none => exact wpAny_pure hq
  | some sig =>
    simp only [argsOk, hsig] at ha
    have h2 : Bind.checkArgs "object.__ne__" sig ⟨[.ref a, u], []⟩ = pure () := ha
    show wpAny M A (Bind.checkArgs "object.__ne__" sig ⟨[.ref a, u], []⟩) Q E _
    rw [h2]; exact wpAny_pure hq
theorem op_ownNe (hK : X.K = G.K) (CO : ClsOk G) (F : OwnF G X cx k) (hr : RoomG (k + 1) X.A) : OpR X (compareOp .NotEq) (rOwnEq G cx true) := by
  intro pins s σ H x y v u Q I rx ry h
  obtain ⟨ρ, o, wx, wy, val, o', b, hx, hy, ⟨c, fs, q, dx, dy, hng, e⟩, w⟩ := h
  obtain ⟨a, C, rfl, hc, hi, ⟨ox, od, J⟩, L⟩ := own_look hK CO I b hx hy ry dx dy hng
  obtain ⟨g, kk, hg, hcal, rfl⟩ := eqOwn_ok e
  obtain ⟨f, fd, ps, O, hb, FF⟩ := F.f c C hc hi g hg
  obtain ⟨tb, lt, nf⟩ := L f O
  cases rx
  have KX := I.kIn
  have hu := hr.room.units0
  show wpAny (model X.prog X.w) X.A (richCompare .NotEq (.ref a) u) (EP X pins σ Q) X.xe s
  have hr' : RoomG k X.A.in1 := ⟨hr.room.in1, hr.gd⟩
  have one : wpAny (model X.prog X.w) X.A (tryCompare (.ref a) "__ne__" u) (fun r s' => ∃ v, r = some v ∧ EP X pins σ Q v s') X.xe s := by
    simp only [tryCompare]
    refine wpAny_bind ?_
    simp only [callSpecialIfBound?, bindSpecialIfBound?]
    refine wpAny_holding (wpAny_bind (wpAny_bind (wpAny_bind (J.type.here ((PySem.W.looks_findIn KX (by rw [hK]; exact O.fnq)).here ?_)))))
    simp only [ne_slot.bind]
    refine wpAny_bind (wpAny_askSetting (wpAny_ite ?_))
    have fin : wpAny (model X.prog X.w) X.A (call (.builtin "object.__ne__") ([.ref a] ++ [u]) >>= fun v => pure (some v)) (fun r s' => ∃ z, r = some (.bool z) ∧ EP X pins σ Q (.bool z) s') X.xe s := by
      refine wpAny_bind (wpAny_call (codeAny_call_builtin ne_slot.plain PySem.F.cmpEntry_ne (check_slotK KX J (by rw [hK]; exact O.sub) ?_)))
      unfold Builtin.«object.__ne__»
      have hu1 : X.A.in1.units < cLine := hr'.room.units0
      refine wpAny_bind ?_
      simp only [slotArgs, List.isEmpty_nil, Bool.not_true, Bool.false_eq_true, if_false, List.length_singleton]
      refine wpAny_bind (wpAny_pure ?_)
      refine wpAny_pure ?_
      refine wpAny_bind (wpAny_cRoomFor hu1 ?_)
      refine wpAny_bind (PySem.W.ifBound_K KX J (by rw [hK]; exact O.fq) (by rw [hK]; exact O.isf) ?_)
      refine wpAny_mono (own_call (x := .ref a) FF hr' rfl hb I rfl ry b hx hy hcal) (fun r s' z => ?_) fun _ _ z => z
      obtain ⟨rfl, H', I', p⟩ := z
      refine wpAny_bind (wpAny_truthy_bool ?_)
      refine wpAny_pure (wpAny_pure ⟨_, rfl, ?_⟩)
      exact ⟨.bl (!kk), H', I', rfl, w _ _ (PostV.bl p)⟩
    split
    · refine wpAny_bind (wpAny_pure (wpAny_pure ?_))
      refine wpAny_mono fin (fun r s' z => ?_) fun _ _ z => z
      obtain ⟨z, rfl, e⟩ := z
      exact wpAny_pure ⟨_, rfl, e⟩
    · refine wpAny_tryCatch (wpAny_bind (wpAny_pure (wpAny_pure ?_)))
      refine wpAny_mono fin (fun r s' z => ?_) fun _ _ z => z
      obtain ⟨z, rfl, e⟩ := z
      exact wpAny_pure ⟨_, rfl, e⟩
  unfold richCompare
  simp only [oneThing_ref]
  refine wpAny_holding (wpAny_bind (wpAny_cRoomFor hu ?_))
  refine wpAny_bind (J.type.here (wpAny_bind (lt.here ?_)))
  have nf' : PySem.W.notFirst X.K C tb = true := nf
  split
  · rename_i q'
    have e' : PySem.W.subIn X.K tb (.ref C) = some false := by
      rcases Bool.or_eq_true_iff.mp nf' with e | e
      · rw [beq_iff_eq.mp e] at q'; simp at q'
      · exact beq_iff_eq.mp e
    refine wpAny_bind ((PySem.W.looks_subIn KX e').here ?_)
    simp only [Bool.false_eq_true, if_false]
    refine wpAny_bind (wpAny_mono one (fun r s' z => ?_) fun _ _ e => e)
    obtain ⟨v, rfl, hq⟩ := z
    exact wpAny_pure hq
  · refine wpAny_bind (wpAny_pure ?_)
    simp only [Bool.false_eq_true, if_false]
    refine wpAny_bind (wpAny_mono one (fun r s' z => ?_) fun _ _ e => e)
    obtain ⟨v, rfl, hq⟩ := z
    exact wpAny_pure hq
end
end Mi
end
section
set_option linter.all false
set_option Elab.async false
set_option maxHeartbeats 2000000
set_option autoImplicit false
namespace Mi
open PySem L2
section
variable {G : Gx} {X : L2.Cx} {Wx : WX} {pos : Pos} {e : Expr} {va : Sg → List Ob → R Val} {op : Operator} {g : Int → Int → Int}
/-- += and -= -/
structure AugOk (X : L2.Cx) (op : Operator) (g : Int → Int → Int) : Prop where
  ip : PIp X op (ipI g)
  ev : ∀ i w o, augR op (.d (.int i)) w o = match w with
    | .d (.int j) => .ok (wd (.int (g i j))) o
    | _ => .bad
theorem aug_add : AugOk X .Add (fun i j => i + j) := ⟨ip_add, fun i w o => by cases w with
  | d d => cases d <;> rfl
  | loc n => rfl⟩
theorem aug_sub : AugOk X .Sub (fun i j => i - j) := ⟨ip_sub, fun i w o => by cases w with
  | d d => cases d <;> rfl
  | loc n => rfl⟩
theorem ps_augE {i : Nat} {x : Str} {pos' : Pos} (he' : ∀ e, G.er = some e → e.slot ≠ i) (hN : X.N.Nodup) (hi : X.N[i]? = some x) (hx : Loc X.env.scope x) (hf : X.fn x = true ∨ X.env.scope.names.lookup x = some .local) (he : EE G X Wx e va) (A : AugOk X op g) :
    PS X (.AugAssign (.Name x pos') op e pos) (tS G Wx fun τ o => match τ[i]? with
      | some (some (.d (.int k))) => bndS (asW (va τ o)) τ fun w o1 => bndS (asW (augR op (.d (.int k)) w o1)) τ fun v o2 => .next (τ.set i (some v)) o2
      | _ => .bad) :=
  PS.weak (ps_aug hN hi hx he.w A.ip hf) fun D σ H ⟨ρ, τ, o, b, l, h⟩ => by
    simp only at h
    split at h
    · rename_i k hk
      obtain ⟨v, e1, r⟩ := l.at_ _ _ hk
      cases r
      refine ⟨_, e1, ?_⟩
      refine (tS_W (f := fun τ w o1 => bndS (asW (augR op (.d (.int k)) w o1)) τ fun v o2 => .next (τ.set i (some v)) o2) ⟨ρ, τ, o, b, l, h⟩).mono fun v H1 ⟨ρ, o, τ, w, at_, rw, q⟩ => ?_
      rw [A.ev] at q
      cases w with
      | loc n => exact q.elim
      | d d =>
        cases d with
        | int j =>
          cases rw
          exact ⟨k, j, rfl, rfl, q _ _ (post_n at_.ob (at_.sl.set i he' (.int _)))⟩
        | _ => exact q.elim
    · exact h.elim
variable {vb vc : Sg → List Ob → R Val}
theorem ix_pget : PGet X (fun x y H Q => rIxL X.K x y H Q ∨ rIxT X.K x y H Q) := by
  intro pins s σ H x y v u Q I rx ry h
  rcases h with h | h
  · obtain ⟨p, xs, i, z, rfl, rfl, hq, he, q⟩ := h
    cases rx
    obtain ⟨t, rfl⟩ := ry
    obtain ⟨its, r, pl, hz⟩ := I.list hq
    obtain ⟨j, h1, h2, h3, h4, h5⟩ := atI_get he
    obtain ⟨w, ew, rw'⟩ := r.get h2
    have hl := r.length
    have hn := line63
    have fin : EP X pins σ Q w s := ⟨z, H, I, rw', q⟩
    by_cases h0 : 0 ≤ i
    · have hj : i.toNat = j := by
        rw [seqIndex_of h0 h5] at h1
        exact Option.some.inj h1
      exact wpAny_getItem_list pl.isList h0 (by omega) (by rw [hj]; simpa using ew) fin
    · have hj : (i + (its.toArray.size : Int)).toNat = j := by
        rw [seqIndex_neg (by omega) h4] at h1
        rw [List.size_toArray, ← hl]
        exact Option.some.inj h1
      exact wpAny_getItem_list_neg pl.isList (by omega) (by rw [List.size_toArray] <;> omega) (by omega) (by rw [hj]; simpa using ew) fin
  · obtain ⟨p, xs, i, z, rfl, rfl, hq, he, q⟩ := h
    cases rx
    obtain ⟨t, rfl⟩ := ry
    obtain ⟨its, r, pl, hz⟩ := I.tuple hq
    obtain ⟨j, h1, h2, h3, h4, h5⟩ := atI_get he
    obtain ⟨w, ew, rw'⟩ := r.get h2
    have hl := r.length
    have hn := line63
    have fin : EP X pins σ Q w s := ⟨z, H, I, rw', q⟩
    exact PyProof.Rows.getItem_tuple (j := j) pl (by omega) (by omega) (by rw [List.size_toArray, ← hl]; exact h1) (by simpa using ew) fin
theorem idx_ok (hK : X.K = G.K) {ρ : List Addr} {H : Hp} {o o' : List Ob} {wx wy : W} {x y : V} {val : Val} {Q : VK} (b : Obs G ρ ρ H o) (hx : RW G ρ ρ H wx x) (hy : RW G ρ ρ H wy y) (e : idxR wx wy o = .ok val o') (w : WantV G ρ H Q val o') : rIxL X.K x y H Q ∨ rIxT X.K x y H Q := by
  unfold idxR at e
  cases z : view o wy with
  | none => simp [z] at e
  | some k =>
    simp only [z] at e
    have hk := view_ok b z hy
    cases wx with
    | d p =>
      cases p with
      | tup xs =>
        cases k <;> first | (simp [idxW, okO] at e; done) | skip
        cases hk
        rename_i i
        cases z2 : atI xs i with
        | none => simp [idxW, okO, z2] at e
        | some x =>
          simp [idxW, okO, z2] at e
          obtain ⟨rfl, rfl⟩ := e
          cases hx with
          | tup ha da ra =>
            obtain ⟨v', e1, e2⟩ := rds_at ra z2
            exact .inr ⟨_, _, i, v', rfl, rfl, sqT_frz ha, e1, w _ _ (post_same b e2)⟩
      | lst xs =>
        cases k <;> first | (simp [idxW, okO] at e; done) | skip
        cases hk
        rename_i i
        cases z2 : atI xs i with
        | none => simp [idxW, okO, z2] at e
        | some x =>
          simp [idxW, okO, z2] at e
          obtain ⟨rfl, rfl⟩ := e
          cases hx with
          | lst ha na ra =>
            obtain ⟨v', e1, e2⟩ := rds_at ra z2
            exact .inl ⟨_, _, i, v', rfl, rfl, .inl ha, e1, w _ _ (post_same b e2)⟩
      | _ => cases k <;> simp [idxW, okO] at e
    | loc n =>
      obtain ⟨a, ea, rfl⟩ := hx
      cases k <;> first | (simp [idxW, okO] at e; done) | skip
      cases hk
      rename_i i
      cases q : o[n]? with
      | none => simp [idxW, okO, q] at e
      | some ob =>
        have rb := b.ob n ob a q ea
        cases ob with
        | lst ws =>
          obtain ⟨vs, ha, rw, _⟩ := rb
          cases z2 : atI ws i with
          | none => simp [idxW, okO, q, z2] at e
          | some x =>
            simp [idxW, okO, q, z2] at e
            obtain ⟨rfl, rfl⟩ := e
            obtain ⟨v', e1, e2⟩ := rws_at rw z2
            exact .inl ⟨_, _, i, v', rfl, rfl, SqL.of ha, e1, w _ _ ⟨ρ, List.prefix_rfl, Stp.refl, b, e2⟩⟩
        | _ => simp [idxW, okO, q] at e
/-- what is put there -/
def putK (τ : Sg) (o : List Ob) (x y v : W) : SR := match y with
  | .d k => oS τ (setiW o x k v)
  | .loc _ => .bad
def augK (op : Operator) (vc : Sg → List Ob → R Val) (τ : Sg) (x y : W) (v : Val) (o3 : List Ob) : SR := match v with
  | .w (.d (.int k)) => bndS (asW (vc τ o3)) τ fun w o4 => bndS (asW (augR op (.d (.int k)) w o4)) τ fun v o5 => putK τ o5 x y v
  | _ => .bad
theorem idxR_o {x y : W} {o o' : List Ob} {v : Val} (h : idxR x y o = .ok v o') : o' = o ∧ ∃ w, v = .w w := by
  unfold idxR okO at h
  split at h
  · rename_i k hk
    cases z : idxW o x k with
    | none => simp [z] at h
    | some w => simp [z] at h; exact ⟨h.2.symm, w, h.1.symm⟩
  · cases h
theorem ps_augiE {oe ie : Expr} {tp : Pos} (hK : X.K = G.K) (hs : isSlice ie = false) (ho : EE G X Wx oe va) (hi : EE G X Wx ie vb) (he : EE G X Wx e vc) (A : AugOk X op g)
    (ha : ∀ ov iv new, augStore ie ov iv new = (do holding [new, ov, iv] (setItem ov iv new); release [new, ov, iv] []; pure .next)) :
    PS X (.AugAssign (.Subscript oe ie tp) op e pos) (tS G Wx fun τ o => bndS (asW (va τ o)) τ fun x o1 => bndS (asW (vb τ o1)) τ fun y o2 => bndS (idxR x y o2) τ fun v o3 => augK op vc τ x y v o3) :=
  PS.weak (ps_augS ho.w hi.w ix_pget he.w A.ip (set_W (G := G)) ha) fun D σ H q =>
    (tS_WW (f := fun τ x y o2 => bndS (idxR x y o2) τ fun v o3 => augK op vc τ x y v o3) q).mono fun v H1 h1 => h1.mono fun u H2 ⟨ρ, o, τ, x, y, at_, rx, ry, q⟩ => by
      cases z : idxR x y o with
      | bad => rw [z] at q; exact q.elim
      | exc _ _ => exact absurd z idxR_ne
      | ok val o' =>
        rw [z] at q
        obtain ⟨rfl, w0, rfl⟩ := idxR_o z
        refine idx_ok hK at_.ob rx ry z fun v1 H3 hp => ?_
        obtain ⟨ρ1, p, s, b1, r1⟩ := hp
        have q1 := SP.lift q p s
        cases w0 with
        | loc n => exact q1.elim
        | d d0 =>
          cases d0 with
          | int k =>
            cases r1
            have l1 := at_.sl.step p s at_.ob.zm
            have rx1 := rx.step p s at_.ob.zm
            have ry1 := ry.step p s at_.ob.zm
            refine ⟨ρ1, τ, o', b1, l1, (SP.bnd (f := fun w o4 => bndS (asW (augR op (.d (.int k)) w o4)) τ fun v o5 => putK τ o5 x y v) q1 l1 b1.zm).mono fun w o4 q2 v2 H4 hp2 => ?_⟩
            obtain ⟨ρ2, p2, s2, b2, r2⟩ := hp2
            have q3 := SP.lift q2 p2 s2
            rw [A.ev] at q3
            cases w with
            | loc n => exact q3.elim
            | d d1 =>
              cases d1 with
              | int j =>
                cases r2
                refine ⟨k, j, rfl, rfl, ?_⟩
                cases y with
                | loc _ => exact q3.elim
                | d kk =>
                  obtain ⟨o5, eo, q4⟩ := SP_oS q3
                  refine ⟨ρ2, o4, x, kk, _, o5, b2, rx1.step p2 s2 b1.zm, ry1.step p2 s2 b1.zm, (show RW G ρ2 ρ2 H4 (.d (.int (g k j))) (.int (g k j)) from RD.int _), eo, fun H' hp => q4 _ _ ?_⟩
                  obtain ⟨ρ3, p3, s3, b3⟩ := hp
                  exact ⟨ρ3, p3, s3, b3, (l1.step p2 s2 b1.zm).step p3 s3 b2.zm⟩
              | _ => exact q3.elim
          | _ => exact q1.elim
theorem augK_eq {cx : Cx} {a i e : E} {op : Operator} {σ : Sg} {o : List Ob} : evS cx (.augi a i op e) σ o = bndS (asW (evE cx a σ o)) σ fun x o1 => bndS (asW (evE cx i σ o1)) σ fun y o2 => bndS (idxR x y o2) σ fun v o3 => augK op (evE cx e) σ x y v o3 := by
  rw [evS]; rfl
end
end Mi
end
section
set_option linter.all false
set_option Elab.async false
set_option maxHeartbeats 2000000
set_option autoImplicit false
namespace Mi
open PySem PySem.Spec PyProof.Rows L2 LamX
/-! ### a lambda called, no repr under way -/
section
variable {X : L2.Cx} {pins : List (Addr × Obj)} {σ : L2.St} {H HZ : Hp} {s s1 : Shared}
theorem pe_actG {CXg : CXT} {Eg : XK} {Ng : List Str} {qg : Str} {sg : Scope} {g f c' : Addr} {cdg pm ctv : Value} {params : Arguments} {body : Expr} {scope : Scope} {k i : Nat} {a : Str} {pn : List (Addr × Obj)} {xe : Value → Shared → Prop} {W : WX} {t : XK → TE} {p1 p2 : Pos}
    (I : L2.Inv X pins σ H s) (L : LamS X.env.scope scope) (hf : s.heap.get? f = some (PySem.W.kla_obj "<lambda>" (X.env.qual ++ "<lambda>") params body scope (cloFrom X.env.cells scope.names []) pm c' ctv)) (hfn : H f = none) (hfr : f ∉ frs X.stack)
    (hbind : bindArgs (PySem.W.kla_fn "<lambda>" (X.env.qual ++ "<lambda>") params body scope (cloFrom X.env.cells scope.names []) pm (.ref c') ctv) ⟨[], []⟩ = pure [])
    (tk : Takes ((cxOf CXg X.prog X.w X.K X.mg X.base Ng qg sg g cdg X.A X.stack s H Eg).tr pn xe) W) (hr : RoomG (k + 1) (X.A.deeper (envOfC qg sg s.heap.objs.size g cdg)))
    (hbody : ∀ (A : Around) (outer : List Env) (s : Shared) (H : Hp) (E : XK), RoomG k (A.deeper (lamEnv X scope s.heap.objs.size f c')) → PE (lamCx X A outer s H E scope f c') body (t E))
    (hN : Ng[i]? = some a) (hv : Vis sg a) (hd : (a == ("__debug__" : Str)) = false := by decide) (hcd : (a == ("__classdict__" : Str)) = false := by decide) :
    PE ((cxOf CXg X.prog X.w X.K X.mg X.base Ng qg sg g cdg X.A X.stack s H Eg).tr pn xe) (.Call (.Name a p1) [] [] p2)
      (fun σZ HZ Q => σZ[i]? = some (some (.ref f)) ∧ HZ c' = some (CodeO c' (X.env.qual ++ "<lambda>")) ∧ t (WE W σZ) σ HZ Q) := by
  refine ⟨fun pinsZ sZ σZ HZ Q IZ h => ?_⟩
  obtain ⟨hs, hc, ht⟩ := h
  refine wpAny_Call_Name_kw (thn ((pe_var (pos := p1) (i := i) hN hv hd hcd).run pinsZ sZ σZ HZ (fun v H1 => v = .ref f ∧ H1 = HZ) IZ ⟨.ref f, hs, rfl, rfl⟩) fun u s1 ⟨v, H1, I1, r1, q1⟩ => ?_)
  obtain ⟨ev, eH⟩ := q1
  subst ev
  rw [eH] at I1
  obtain rfl : u = Value.ref f := r1
  have of1 : s1.heap.get? f = some (PySem.W.kla_obj "<lambda>" (X.env.qual ++ "<lambda>") params body scope (cloFrom X.env.cells scope.names []) pm c' ctv) := I1.base.keep f _ hf hfn hfr (fun z => nomatch (show f ∈ ([] : List Addr) from z))
  refine PySem.W.callWith_F0 ⟨_, _, _, _, of1⟩ ?_
  have un : Un (frs X.stack) [] H HZ s.heap s1.heap := I1.base
  obtain ⟨⟨oc, vs, t, hoc, hdc, hvc⟩, _, _⟩ := I1.hok c' _ hc
  have rc : codeAny (model X.prog X.w) (X.A.deeper (envOfC qg sg s.heap.objs.size g cdg)) (.call (.ref f) ⟨[], []⟩) (CR (L2.CX X.prog X.w) (envOfC qg sg s.heap.objs.size g cdg :: X.stack) X.prog X.w HZ s1 Q (WE W σZ)) s1 := by
    refine PySem.W.kla_callFunE hr.room.depth of1 rfl L.co L.gen rfl ⟨c', oc, vs, t, rfl, hoc, hdc, hvc⟩ ?_
    rw [hbind]
    refine wpAny_pure (wpAny_newFunctionEnv (fun y hy => (L.own y hy).2) (fun y hy => absurd hy (by simp)) (fun h₁ hns hsb => ⟨I1.nolimit.fresh _ hsb, ?_⟩) L.kind)
    show codeAny _ _ (.expr body (lamEnv X scope s1.heap.objs.size f c')) _ _
    have kp : ∀ b o, s1.heap.get? b = some o → h₁.get? b = some o := fun b o e => hsb.extBut b o (Nat.ne_of_lt (Heap.lt_size e)) (Heap.get?_push_of_some _ e)
    have J : L2.Inv (lamCx X (X.A.deeper (envOfC qg sg s.heap.objs.size g cdg)) (envOfC qg sg s.heap.objs.size g cdg :: X.stack) s1 HZ (WE W σZ) scope f c') [] σ HZ { s1 with heap := h₁, toks := s1.toks + ([] : List (Str × Value)).length } :=
      lam_start2 I L I1.env0 hr.room.hd un hns kp
    refine PySem.W.kla_codeExpr (wpAny_mono ((hbody _ _ s1 HZ _ (hr.deeper _)).run [] _ _ HZ Q J ht) (fun v s' hq => ?_) fun e s' hq => hq)
    obtain ⟨w', H', J', rv, q⟩ := hq
    exact ⟨w', H', J'.os, J'.bare, J'.base, J'.hok, rv, q⟩
  have hx : PassesAt (L2.CX X.prog X.w) ((cxOf CXg X.prog X.w X.K X.mg X.base Ng qg sg g cdg X.A X.stack s H Eg).tr pn xe) σZ (WE W σZ) := passAt tk σZ
  refine wpAny_call (codeAny_mono rc fun r s' hq => ?_)
  cases r with
  | error e => exact hx pinsZ HZ s1 e s' I1 hq
  | ok fl =>
    cases fl with
    | ret u => exact I1.after hq
    | next => exact False.elim hq
    | brk => exact False.elim hq
    | cont => exact False.elim hq
end
end Mi
end
section
set_option linter.all false
set_option Elab.async false
set_option maxHeartbeats 2000000
set_option autoImplicit false
namespace Mi
open PySem L2 LamX
/-- at the callee's start: its slot 0 is the lambda, whose code object is known; the definer's slots stand -/
def PreL (G : Gx) (σ0 : L2.St) (τ0 : Sg) (f c' : Addr) (q : Str) : List Addr → Sg → List Ob → L2.St → Hp → Prop := fun ρ _ _ σ H => σ[0]? = some (some (.ref f)) ∧ H c' = some (CodeO c' q) ∧ Sl G ρ ρ H τ0 σ0
section
variable {G : Gx} {X : L2.Cx} {W : WX} {pos : Pos} {e : Expr} {va : Sg → List Ob → R Val} {σ0 : L2.St} {τ0 : Sg} {f c' : Addr} {q : Str}
theorem act_tE {ρ : List Addr} {o : List Ob} {σ : L2.St} {H : Hp} {Q : VK} (b : Obs G ρ ρ H o) (l : Sl G ρ ρ H τ0 σ0) (h : RP G W ρ H σ (WantV G ρ H Q) (va τ0 o)) : tE G (fun cls d _ H => W cls d σ H) va σ0 H Q := by
  refine ⟨ρ, τ0, o, b, l, ?_⟩
  cases z : va τ0 o with
  | ok val o' => rw [z] at h; exact h
  | exc e o' => rw [z] at h; exact h
  | bad => rw [z] at h; exact h
theorem ps_actE (hc : isComp e = false) (act : PE X e (fun σZ HZ Q => σZ[0]? = some (some (.ref f)) ∧ HZ c' = some (CodeO c' q) ∧ tE G (fun cls d _ H => W cls d σZ H) va σ0 HZ Q)) :
    PS X (.Expr e pos) (tSP (PreL G σ0 τ0 f c' q) G W (fun τ o => bndS (va τ0 o) τ fun _ o1 => .next τ o1)) :=
  PS.weak (ps_expr act (swaps_no hc)) fun D σ H ⟨ρ, τ, o, ⟨h1, h2, h3⟩, b, l, p⟩ =>
    ⟨h1, h2, act_tE b h3 ((SP.bnd (f := fun _ o1 => .next τ o1) p l b.zm).mono fun val o' q v H' hp => q σ H' (hp.n l b.zm))⟩
theorem ps_actR (act : PE X e (fun σZ HZ Q => σZ[0]? = some (some (.ref f)) ∧ HZ c' = some (CodeO c' q) ∧ tE G (fun cls d _ H => W cls d σZ H) va σ0 HZ Q)) :
    PS X (.Return (some e) pos) (tSP (PreL G σ0 τ0 f c' q) G W (fun τ o => bndS (va τ0 o) τ fun v o1 => .ret v o1)) :=
  PS.weak (ps_ret act) fun D σ H ⟨ρ, τ, o, ⟨h1, h2, h3⟩, b, l, p⟩ =>
    ⟨h1, h2, act_tE b h3 (SP.bnd (f := fun v o1 => .ret v o1) p l b.zm)⟩
end
end Mi
end
section
set_option linter.all false
set_option Elab.async false
set_option maxHeartbeats 2000000
set_option autoImplicit false
namespace Mi
open PySem L2 LamX
section
variable {G : Gx} {ρ : List Addr} {H : Hp} {o : List Ob}
theorem body_SP {Q : VK} {E : XK} {T : Tab} {wf d fid : Nat} {g : Fn} {t : Option Thk} {ws : List W} (hf : T.fn fid = some g) (hnt : T.nat fid = none) (b : Obs G ρ ρ H o) (h : RC G ρ H Q E (run T wf (d + 1) fid t ws o)) :
    ws.length = g.np ∧ SP G (fun cls d _ H => E cls d H) ρ H { nx := fun _ H' => Q .non H', rt := Q } (evB ⟨T, run T wf d, wf, t, none⟩ g.body (ws.map some ++ List.replicate (g.ns - g.np) none) o) := by
  unfold run at h
  rw [hnt, hf] at h
  simp only at h
  split at h
  · rename_i hl
    have hl2 := b.len
    refine ⟨hl, ?_⟩
    have sub : ∀ {ρ' : List Addr}, ρ <+: ρ' → ∀ a ∈ ρ, a ∈ ρ' := fun p a m => p.subset m
    have dn : ∀ {ρ' : List Addr} {o' : List Ob} {H' : Hp}, ρ <+: ρ' → Obs G ρ' ρ' H' o' → Obs G ρ ρ H' (o'.take o.length) := by
      intro ρ' o' H' p b'
      have b2 := b'.takeS o.length
      rw [← hl2, pre_take p] at b2
      rw [← hl2]
      exact b2
    cases z : evB ⟨T, run T wf d, wf, t, none⟩ g.body (ws.map some ++ List.replicate (g.ns - g.np) none) o with
    | next τ' o' =>
      rw [z] at h
      intro σ' H' ⟨ρ', p, s, b', l⟩
      exact h _ H' ⟨ρ, List.prefix_rfl, s.sub (sub p), dn p b', .non⟩
    | ret v o' =>
      rw [z] at h
      intro u H' hp
      simp only at h
      cases y : finish o.length v o' with
      | ok val o2 => rw [y] at h; exact h u H' (finish_ok hl2.symm hp y)
      | exc e o2 =>
        exfalso
        unfold finish at y
        split at y
        · cases y
        · split at y
          · cases y
          · split at y <;> cases y
        · split at y <;> cases y
      | bad => rw [y] at h; exact h.elim
    | exc e τ' o' =>
      rw [z] at h
      intro cls d' σ' H' ⟨ρ', p, s, b', l, x⟩
      exact h cls d' H' ⟨ρ, List.prefix_rfl, s.sub (sub p), dn p b', x.less (sub p)⟩
    | brk _ _ => rw [z] at h; exact h.elim
    | cont _ _ => rw [z] at h; exact h.elim
    | bad => rw [z] at h; exact h.elim
  · exact h.elim
/-- a def that got a lambda, at its start -/
theorem body_spT (h0 : G.er = none) {Q : VK} {E : XK} {T : Tab} {wf d fid : Nat} {g : Fn} {thk : Thk} {N : List Str} {f c' : Addr} {q : Str} {σ0 : L2.St} {τ0 : Sg} (hf : T.fn fid = some g) (hnt : T.nat fid = none) (hN : N.length = g.ns) (hp : g.np = 0) (h1 : 0 < g.ns) (b : Obs G ρ ρ H o) (l0 : Sl G ρ ρ H τ0 σ0) (hc : H c' = some (CodeO c' q))
    (h : RC G ρ H Q E (run T wf (d + 1) fid (some thk) [] o)) :
    tSP (PreL G σ0 τ0 f c' q) G (fun cls d _ H => E cls d H) (evB ⟨T, run T wf d, wf, some thk, none⟩ g.body) { nx := fun _ H' => Q .non H', rt := Q } (L2.start N [.ref f]) H := by
  obtain ⟨_, hs⟩ := body_SP hf hnt b h
  refine ⟨ρ, _, o, ⟨?_, hc, l0⟩, b, ⟨?_, fun i w e => ?_, er0 h0⟩, hs⟩
  · unfold L2.start; rfl
  · unfold L2.start; simp [hp, hN]; omega
  · simp only [List.map_nil, List.nil_append, List.getElem?_replicate] at e
    split at e <;> cases e
end
end Mi
end
section
set_option linter.all false
set_option Elab.async false
set_option maxHeartbeats 2000000
set_option autoImplicit false
namespace Mi
open PySem PySem.Spec PyProof.Rows L2 LamX
section
variable {X : L2.Cx} {pins : List (Addr × Obj)} {σ : L2.St} {H : Hp} {s : Shared}
/-- a lambda made: but the table all is kept -/
theorem lam_makeP {c P : Addr} {params : Arguments} {body : Expr} {scope : Scope} {pos : Pos} {E : Value → Shared → Prop} {Q : Value → Shared → Prop} (I : L2.Inv X pins σ H s) (TB : TabB X.base X.mg c P) (hcode : X.env.code = .ref c)
    (hT : TabS H P (X.env.qual ++ "<lambda>")) (hdef : defaultsOf params X.env = ([], [])) (hfree : ∀ y ∈ scope.names, y.2 = .free → ∃ c, X.env.cells.lookup y.1 = some c)
    (h : ∀ (f c' : Addr) (pm ctv : Value) (H1 : Hp) (s' : Shared), L2.Inv X pins σ H1 s' → (∀ b o, H b = some o → b ≠ P → H1 b = some o) → TabS H1 P (X.env.qual ++ "<lambda>") →
      s'.heap.get? f = some (PySem.W.kla_obj "<lambda>" (X.env.qual ++ "<lambda>") params body scope (cloFrom X.env.cells scope.names []) pm c' ctv) → H1 f = none → f ∉ frs X.stack → H1 c' = some (CodeO c' (X.env.qual ++ "<lambda>")) → Q (.ref f) s') :
    wpAny (model X.prog X.w) X.A (eval (.Lambda params body scope pos) X.env) Q E s := by
  obtain ⟨ps, hP, ht, ha⟩ := hT
  refine PySem.W.kla_eval hdef ?_
  have bP : s.heap.BuiltinsAt X.mg P := TB.bm.keeps I.bk
  have hP' : s.heap.get? P = some { cls := .none, data := .fields ps } := I.hok P _ hP
  have nofr : ∀ f, s.heap.objs.size ≤ f → f ∉ frs X.stack := fun f hf z => by
    rcases List.mem_cons.mp (I.stkSub _ z) with e | e
    · have h1 := I.lt
      rw [← e] at h1
      exact Nat.lt_irrefl _ (Nat.lt_of_lt_of_le h1 hf)
    · exact I.nofs hf e
  cases hc : codeAmong pos ps.toList with
  | none =>
    refine PySem.W.kla_makeFunction (mg := X.mg) (c := c) (P := P) (ps := ps) (closure_ok hfree) I.ok.glob (I.mod.glob.keeps I.bk) hcode (TB.code.keeps I.bk) hP' ht hc TB.gP bP fun c' ctv h' tk hx hge hlt hrec htb => ?_
    obtain ⟨c2, oc, vs, t, e2, hoc, hd, hv⟩ := hrec
    cases e2
    have hsz : s.heap.objs.size ≤ h'.objs.size := Nat.le_trans hge (Nat.le_of_lt hlt)
    have nC : H c' = none := I.hok.fresh hge
    have I1 := inv_table (t' := tk) (more := #[rawInt pos.line, rawInt pos.col, .ref c']) (h' := h'.push (PySem.W.kla_obj "<lambda>" (X.env.qual ++ "<lambda>") params body scope (cloFrom X.env.cells scope.names []) ((X.mg "__name__").getD .none) c' ctv)) I hP
      (fun b o hb e => Heap.get?_push_of_some _ (hx b o hb e)) (Heap.get?_push_of_some _ htb) hge ⟨oc, vs, t, Heap.get?_push_of_some _ hoc, hd, hv⟩
    have hE : ∀ b o, H b = some o → b ≠ P → upd (upd H P (.tbl (ps ++ #[rawInt pos.line, rawInt pos.col, .ref c']))) c' (CodeO c' (X.env.qual ++ "<lambda>")) b = some o := fun b o e n => by
      rw [upd_ne (ne_of_none e nC), upd_ne n]; exact e
    have eL : (ps ++ #[rawInt pos.line, rawInt pos.col, .ref c']).toList = ps.toList ++ [rawInt pos.line, rawInt pos.col, .ref c'] := by simp
    refine h h'.objs.size c' ((X.mg "__name__").getD .none) ctv _ _ I1 hE ?_ (Heap.get?_push_size _ rfl) ?_ (nofr _ hsz) upd_same
    · refine ⟨_, by rw [upd_ne (ne_of_none hP nC), upd_same], by rw [eL]; exact PySem.TriplesOk_snoc _ _ _ _ ht, fun p' cv hcv => ?_⟩
      rw [eL] at hcv
      rcases among_app _ ht hcv with z | z
      · obtain ⟨c0, e1, e2⟩ := ha p' cv z
        exact ⟨c0, e1, hE _ _ e2 fun z => by rw [z, hP] at e2; cases e2⟩
      · exact ⟨c', z, upd_same⟩
    · have n1 : h'.objs.size ≠ c' := Nat.ne_of_gt hlt
      have n2 : h'.objs.size ≠ P := Nat.ne_of_gt (Nat.lt_of_lt_of_le (Heap.lt_size hP') hsz)
      rw [upd_ne n1, upd_ne n2]
      exact I.hok.fresh hsz
  | some cv =>
    obtain ⟨c', e, hco⟩ := ha pos cv hc
    subst e
    refine PySem.W.kla_makeFunctionHit (mg := X.mg) (c := c) (P := P) (ps := ps) (closure_ok hfree) I.ok.glob (I.mod.glob.keeps I.bk) hcode (TB.code.keeps I.bk) hP' ht hc bP fun ctv h' tk hx hsz => ?_
    have I1 : L2.Inv X pins σ H { s with heap := h'.push (PySem.W.kla_obj "<lambda>" (X.env.qual ++ "<lambda>") params body scope (cloFrom X.env.cells scope.names []) ((X.mg "__name__").getD .none) c' ctv), toks := tk } := I.kept fun b o e => Heap.get?_push_of_some _ (hx b o e)
    exact h h'.objs.size c' ((X.mg "__name__").getD .none) ctv H _ I1 (fun _ _ h _ => h) ⟨ps, hP, ht, ha⟩ (Heap.get?_push_size _ rfl) (I.hok.fresh hsz) (nofr _ hsz) hco
end
end Mi
end
section
set_option linter.all false
set_option Elab.async false
set_option maxHeartbeats 2000000
set_option autoImplicit false
namespace Mi
open PySem PySem.Spec PyProof.Rows L2 LamX
/-! ### a def called that gets a lambda -/
theorem run_ofG {CX : CXT} {P : Program} {w : World} {K : PySem.W.Frag} {mg : Str → Option Value} {base : Heap} {k : Nat} {f : Addr} {name qual : Str} {params : Arguments} {body : List Stmt} {scope : Scope} {dV kV doc pm cdv ct oc : Value} {an od : Option Addr}
    {osl : Array (Option Value)} {N ps : List Str} (lk : K.lookup f = some ⟨oc, od, .func (PySem.W.fnOf name qual params body scope dV kV doc pm an cdv ct), osl⟩) (hcd : PySem.W.codeIn K cdv qual = true) (S : FnScope N ps scope)
    {A : Around} {outer : List Env} {s : Shared} {H : Hp} {args : Args} {us : List Value} {vs : List V} {Q : VK} {E : XK} (hr : RoomG (k + 1) A) (e0 : Env0 P w K mg base A outer s H) (hb : BindsTo s (PySem.W.fnOf name qual params body scope dV kV doc pm an cdv ct) args (ps.zip us)) (r : Vals vs us) (hl : vs.length = ps.length)
    (hbody : RoomG k (A.deeper (envOfC qual scope s.heap.objs.size f cdv)) → ∃ t, PSs (cxOf CX P w K mg base N qual scope f cdv A outer s H E) body t ∧ t { nx := fun _ H' => Q .non H', rt := Q } (L2.start N vs) H) :
    codeAny (model P w) A (.call (.ref f) args) (CR CX outer P w H s Q E) s := by
  have KX : K.In s.heap := e0.mod.kin.keeps fun b o e => (e0.bs b o e).1
  have lim : s.heap.NoLimit := e0.mod.nolimit.keeps fun b o e => (e0.bs b o e).1
  have hkind : ∀ y ∈ ps.zip us, scope.names.lookup y.1 = some .local ∨ (scope.names.lookup y.1 = some .cell ∧ ((cellsFrom (s.heap.objs.size + 1) scope.names []).lookup y.1).isSome = true) := fun ⟨n, v⟩ hy => by
    rcases S.par n (List.of_mem_zip hy).1 with q | q
    · exact .inl q
    · exact .inr ⟨q, PySem.W.cellsFrom_some _ _ _ (.inl q)⟩
  refine codeAny_call_function hr.room.depth (KX _ _ lk) rfl S.co S.gen rfl (PySem.W.codeRec_of KX hcd) (hb _ _ _ _ ?_)
  refine wpAny_newFunctionEnv_cells S.kind hkind fun env he s1 x => ?_
  subst he
  refine ⟨lim.keeps x.toInCall.keep, codeAny_func ?_⟩
  obtain ⟨t, ht, hq⟩ := hbody (hr.deeper _)
  have I : L2.Inv (cxOf CX P w K mg base N qual scope f cdv A outer s H E) [] (L2.start N vs) H s1 := inv_start S hr.room.hd e0 hl r x
  refine wpAny_mono (ht.run [] s1 (L2.start N vs) H _ I hq) (fun fl s' hs => ?_) fun e s' hs => hs
  have fin : ∀ {σ' : L2.St} {H' : Hp} {v : V} {u : Value}, L2.Inv (cxOf CX P w K mg base N qual scope f cdv A outer s H E) [] σ' H' s' → RelV v u → Q v H' → CE outer P w H s Q u s' :=
    fun {σ' H' v u} J rv q => ⟨v, H', J.os, J.bare, J.base, J.hok, rv, q⟩
  cases fl with
  | ret u =>
    obtain ⟨v, σ', H', J, rv, q⟩ := hs
    exact fin J rv q
  | next =>
    obtain ⟨σ', H', J, q⟩ := hs
    exact fin (v := V.non) (u := Value.none) J rfl q
  | brk =>
    obtain ⟨_, _, _, q⟩ := hs
    exact False.elim q
  | cont =>
    obtain ⟨_, _, _, q⟩ := hs
    exact False.elim q
/-- what a def promises that calls the lambda it got: rb, its body by the thunk -/
def ThkB (kb : Nat) (G : Gx) (X : L2.Cx) (Ng : List Str) (x : Str) (sg : Scope) (g : Addr) (cdg : Value) (bg : List Stmt) (a q : Str) (rb : Thk → Sg → List Ob → SR) : Prop :=
  ∀ (f c' : Addr) (s : Shared) (H : Hp) (E : XK) (σ0 : L2.St) (τ0 : Sg) (va : Sg → List Ob → R Val) (t : XK → TE), RoomG kb (X.A.deeper (envOfC x sg s.heap.objs.size g cdg)) →
    t = (fun E => tE G (fun cls d _ H => E cls d H) va) →
    (∀ (W : WX) (pn : List (Addr × Obj)) (xe : Value → Shared → Prop) (p1 p2 : Pos), Takes ((cxOf (L2.CX X.prog X.w) X.prog X.w X.K X.mg X.base Ng x sg g cdg X.A X.stack s H E).tr pn xe) W →
      PE ((cxOf (L2.CX X.prog X.w) X.prog X.w X.K X.mg X.base Ng x sg g cdg X.A X.stack s H E).tr pn xe) (.Call (.Name a p1) [] [] p2) (fun σZ HZ Q => σZ[0]? = some (some (.ref f)) ∧ HZ c' = some (CodeO c' q) ∧ tE G (fun cls d _ H => W cls d σZ H) va σ0 HZ Q)) →
    PSs (cxOf (L2.CX X.prog X.w) X.prog X.w X.K X.mg X.base Ng x sg g cdg X.A X.stack s H E) bg (tSP (PreL G σ0 τ0 f c' q) G (fun cls d _ H => E cls d H) (rb fun o => va τ0 o))
section
variable {G : Gx} {X : L2.Cx} {Wx : WX} {ρ : List Addr} {H H1 : Hp} {o : List Ob}
/-- but the table at P all is kept -/
theorem lam_obs {j : Nat} {P : Addr} {q : Str} (hj : o[j]? = some (.tab q)) (hP : ρ[j]? = some P) (b : Obs G ρ ρ H o) (hE : ∀ b o, H b = some o → b ≠ P → H1 b = some o) (hT0 : TabS H P q) (hT : TabS H1 P q) : Stp ρ H ρ H1 ∧ Obs G ρ ρ H1 o := by
  have pm : ∀ a, Mut (H a) → Mut (H1 a) := fun a m => by
    by_cases z : a = P
    · subst z
      obtain ⟨ps, h, _⟩ := hT
      rw [h]; trivial
    · cases e : H a with
      | none => rw [e] at m; exact m.elim
      | some u => rw [hE a u e z]; rw [e] at m; exact m
  have s : Stp ρ H ρ H1 := ⟨fun a o h n => hE a o h fun z => n (z ▸ mem_of_get hP), fun a m => .inl m, fun a o h => by
    by_cases z : a = P
    · subst z
      obtain ⟨ps, h, _⟩ := hT
      exact ⟨_, h⟩
    · exact ⟨o, hE a o h z⟩⟩
  have notP : ∀ {a u}, H a = some u → (∀ ps, u ≠ .tbl ps) → a ≠ P := fun {a u} e n z => by
    obtain ⟨ps, h, _⟩ := hT0
    rw [z, h] at e
    exact n ps (Option.some.inj e).symm
  refine ⟨s, b.sub, b.nd, b.len, fun a m => pm a (b.zm a m), fun n u a e1 e2 => ?_, fun a m => ⟨pm a (b.av a m).1, (b.av a m).2⟩, fun e he => (b.er e he).step s b.zm⟩
  by_cases z : a = P
  · subst z
    have en : n = j := nodup_ix b.nd e2 hP
    subst en
    rw [hj] at e1
    cases e1
    exact ⟨(b.ob n _ a hj e2).1, hT⟩
  · exact (b.ob n u a e1 e2).to (fun u e => hE _ _ e z) (fun _ _ _ r => r.step List.prefix_rfl s b.zm) (fun _ t => by
      obtain ⟨ps, h1, h2, h3⟩ := t
      refine ⟨ps, hE _ _ h1 z, h2, fun pos cv hc => ?_⟩
      obtain ⟨c, e, hcc⟩ := h3 pos cv hc
      exact ⟨c, e, hE _ _ hcc (notP hcc fun ps z => by unfold CodeO at z; cases z)⟩) rfl rfl rfl rfl rfl
def lamR (cx : Cx) (fid j : Nat) (q : Str) (va : Sg → List Ob → R Val) : Sg → List Ob → R Val := fun τ o => match o[j]? with
    | some (.tab q') => if q' = q then cx.cal fid (some fun o => va τ o) [] o else .bad
    | _ => .bad
/-- x(lambda: body) -/
theorem ee_lam (h0 : G.er = none) {T : Tab} {wf d fid j k kb : Nat} {fn : Fn} {x a : Str} {g c : Addr} {pg : Arguments} {bg : List Stmt} {sg : Scope} {dV kV doc pm cdv ct oc : Value} {an od : Option Addr} {osl : Array (Option Value)} {Ng : List Str}
    {params : Arguments} {body : Expr} {scope : Scope} {va : Sg → List Ob → R Val} {p lpos pos : Pos} (hg : Gl X x) (hm : X.mg x = some (.ref g)) (hk : PySem.W.keepIn X.K (.ref g) = true)
    (lk : X.K.lookup g = some ⟨oc, od, .func (PySem.W.fnOf x x pg bg sg dV kV doc pm an cdv ct), osl⟩) (hcg : PySem.W.codeIn X.K cdv x = true) (hb : L2.Binds X.K (PySem.W.fnOf x x pg bg sg dV kV doc pm an cdv ct) [a] []) (Sg : FnScope Ng [a] sg) (hNg : Ng[0]? = some a) (hva : Vis sg a)
    (hf : T.fn fid = some fn) (hnt : T.nat fid = none) (hns : Ng.length = fn.ns) (hnp : fn.np = 0) (hn1 : 0 < fn.ns)
    (hG : ThkB kb G X Ng x sg g cdv bg a (X.env.qual ++ "<lambda>") fun thk => evB ⟨T, run T wf d, wf, some thk, none⟩ fn.body)
    (TB : TabB X.base X.mg c (G.tp j)) (hcode : X.env.code = .ref c) (hr : RoomG (k + 3) X.A) (hkb : kb ≤ k + 2) (L : LamS X.env.scope scope) (hdef : defaultsOf params X.env = ([], []))
    (hbind : ∀ (q : Str) (cl : List (Str × Addr)) (pm cv ctv : Value), bindArgs (PySem.W.kla_fn "<lambda>" q params body scope cl pm cv ctv) ⟨[], []⟩ = pure []) (tk : Takes X Wx)
    (hbody : ∀ (A : Around) (outer : List Env) (s : Shared) (H : Hp) (E : XK) (f c' : Addr), RoomG (k + 1) (A.deeper (lamEnv X scope s.heap.objs.size f c')) → PE (lamCx X A outer s H E scope f c') body (tE G (fun cls d _ H => E cls d H) va))
    (hdb : (x == ("__debug__" : Str)) = false) (hd : (a == ("__debug__" : Str)) = false) (hcd : (a == ("__classdict__" : Str)) = false) :
    EE G X Wx (.Call (.Name x p) [.Lambda params body scope lpos] [] pos) (lamR ⟨T, run T wf (d + 1), wf, none, none⟩ fid j (X.env.qual ++ "<lambda>") va) := by
  refine EE.of ⟨fun pins s σ H Q I h => ?_⟩ rfl
  obtain ⟨ρ, τ, o, b, l, h⟩ := h
  unfold lamR at h
  cases ej : o[j]? with
  | none => simp only [ej] at h; exact h.elim
  | some ob => cases ob with
    | tab q' =>
      simp only [ej] at h
      split at h
      case isFalse => exact h.elim
      rename_i hqp
      subst hqp
      obtain ⟨aP, eP⟩ : ∃ aP, ρ[j]? = some aP := by
        have : j < ρ.length := by rw [b.len]; exact (List.getElem?_eq_some_iff.mp ej).1
        exact ⟨_, List.getElem?_eq_getElem this⟩
      obtain ⟨eaP, hT⟩ := b.ob j _ aP ej eP
      subst eaP
      refine wpAny_Call_Name_kw (ld_glob I hg hm ?_ hdb)
      refine PySem.W.callWith_K (h₀ := X.base) I.ok.mod.kin hk ?_ (by rfl) (by rfl)
      show wpAny _ _ (spliced ((false, eval (.Lambda params body scope lpos) X.env) :: backTo pos (starEach [] X.env))) _ _ s
      refine Calls.spliced_cons (lam_makeP I TB hcode hT hdef (L.has I.ok) fun f c' pm' ctv H1 s' I1 hE T1 hfo hfn hfr hco => ?_)
      refine Calls.spliced_nil ⟨I1.kIn, ?_⟩
      obtain ⟨st, b1⟩ := lam_obs ej eP b hE hT T1
      have l1 := l.step List.prefix_rfl st b.zm
      have h1 : RC G ρ H1 Q (WE Wx σ) (run T wf (d + 1) fid (some fun o => va τ o) [] o) := by
        cases z : run T wf (d + 1) fid (some fun o => va τ o) [] o with
        | ok val o' => 
          rw [z] at h
          exact fun v H' hp => h v H' (hp.lift List.prefix_rfl st)
        | exc e o' => 
          rw [z] at h
          exact fun c d H' hp => h c d H' (hp.lift List.prefix_rfl st)
        | bad => rw [z] at h; exact h.elim
      have rc : codeAny (model X.prog X.w) X.A (.call (.ref g) ⟨[.ref f], []⟩) (CR (L2.CX X.prog X.w) X.stack X.prog X.w H1 s' Q (WE Wx σ)) s' := by
        refine run_ofG (k := k + 2) (N := Ng) (ps := [a]) (us := [.ref f]) (vs := [.ref f]) lk hcg Sg hr I1.env0 (hb s' [.ref f] I1.kIn rfl) (.cons rfl .nil) rfl fun hr' => ?_
        refine ⟨_, hG f c' s' H1 (WE Wx σ) σ τ va _ (hr'.mono (by omega)) rfl (fun W pn xe p1 p2 tkW => ?_), body_spT h0 hf hnt hns hnp hn1 b1 l1 hco h1⟩
        exact pe_actG (t := fun E => tE G (fun cls d _ H => E cls d H) va) (k := k + 1) I1 L hfo hfn hfr (hbind _ _ _ _ _) tkW (hr'.mono (by omega)) (fun A outer s H E hr2 => hbody A outer s H E f c' hr2) hNg hva hd hcd
      refine wpAny_call (codeAny_mono rc fun r s2 hq => ?_)
      cases r with
      | error e => exact passAt tk σ pins H1 s' e s2 I1 hq
      | ok fl =>
        cases fl with
        | ret u => exact I1.after hq
        | next => exact False.elim hq
        | brk => exact False.elim hq
        | cont => exact False.elim hq
    | _ => simp only [ej] at h; exact h.elim
end
end Mi
end
section
set_option linter.all false
set_option Elab.async false
set_option maxHeartbeats 2000000
set_option autoImplicit false
namespace Mi
open PySem PySem.Spec PyProof.Rows L2 LamX
section
variable {G : Gx} {X : L2.Cx} {Wx : WX} {pos : Pos} {a b c e : Expr} {es : List Expr} {r : Sg → List Ob → R (List W)} {va vb vc : Sg → List Ob → R Val} {cx : Cx}
variable {ρ ρ1 zs : List Addr} {H H1 H2 : Hp} {o o1 : List Ob} {D : Ends} {σ : L2.St} {τ : Sg}
/-! ### a < b < c -/
def chainR (cx : Cx) (op op' : CmpOp) (va vb vc : Sg → List Ob → R Val) : Sg → List Ob → R Val := fun τ o => bnd (asW (va τ o)) fun x o1 => bnd (asW (vb τ o1)) fun y o2 => bnd (asT (cmpW cx op x y o2)) fun k o3 =>
      if k then bnd (asW (vc τ o3)) fun z o4 => cmpW cx op' y z o4 else .ok (wd (.bl false)) o3
theorem rw2_of {op : CmpOp} {x y : W} {v u : V} {Q : VK} (b : Obs G ρ ρ H o) (rx : RW G ρ ρ H x v) (ry : RW G ρ ρ H y u) (h : RP G Wx ρ H σ (WantV G ρ H Q) (cmpW cx op x y o)) : rW2 G (cmpW cx op) v u H Q := by
  cases z : cmpW cx op x y o with
  | ok val o' => rw [z] at h; exact ⟨ρ, o, x, y, val, o', b, rx, ry, z, h⟩
  | exc e o' => exact absurd z cmpW_ne
  | bad => rw [z] at h; exact h.elim
theorem ee_chain {op op' : CmpOp} (ho : OpR X (compareOp op) (rW2 G (cmpW cx op))) (ho' : OpR X (compareOp op') (rW2 G (cmpW cx op'))) (hm : lastMarks [op, op'] [b, c] = false) (ha : EE G X Wx a va) (hb : EE G X Wx b vb) (hc : EE G X Wx c vc) :
    EE G X Wx (.Compare a [op, op'] [b, c] pos) (chainR cx op op' va vb vc) := by
  have key : ∀ (σ : L2.St) (H : Hp) (Q : VK), tE G Wx (chainR cx op op' va vb vc) σ H Q →
      tChain (rW2 G (cmpW cx op)) (rW2 G (cmpW cx op')) (tW G Wx fun τ o => asW (va τ o)) (tW G Wx fun τ o => asW (vb τ o)) (tW G Wx fun τ o => asW (vc τ o)) σ H Q := fun σ H Q h =>
    (tW_two (f := fun τ x y o2 => bnd (asT (cmpW cx op x y o2)) fun k o3 => if k then bnd (asW (vc τ o3)) fun z o4 => cmpW cx op' y z o4 else .ok (wd (.bl false)) o3) h).mono fun _ _ h1 => h1.mono fun _ H2 ⟨ρ, o, τ, x, y, at_, rx, ry, h2⟩ => by
      cases z : cmpW cx op x y o with
      | exc e o' => exact absurd z cmpW_ne
      | bad => rw [z] at h2; exact h2.elim
      | ok val o' =>
        rw [z] at h2
        refine ⟨ρ, o, x, y, val, o', at_.ob, rx, ry, z, fun v H3 hp => ?_⟩
        cases tk : truth val with
        | none => simp only [asT, bnd, okO, tk] at h2; exact h2.elim
        | some k =>
          simp only [asT, bnd, okO, tk] at h2
          obtain ⟨rfl, ρ3, p3, s3, b3⟩ := truth_ok tk hp
          refine ⟨k, rfl, ?_⟩
          cases k with
          | false =>
            simp only [Bool.false_eq_true, if_false] at h2 ⊢
            exact h2 _ _ ⟨ρ3, p3, s3, b3, .bl false⟩
          | true =>
            simp only [if_true] at h2 ⊢
            refine ⟨ρ3, τ, o', b3, at_.sl.step p3 s3 at_.ob.zm, (h2.bnd.lift p3 s3 fun _ _ q => q).mono fun zw o4 q v4 H4 hp4 => ?_⟩
            obtain ⟨ρ4, p4, s4, b4, r4⟩ := hp4
            exact rw2_of b4 ((ry.step p3 s3 at_.ob.zm).step p4 s4 b3.zm) r4 (q.lift (p3.trans p4) (s3.trans s4) fun _ _ w => WantV.lift (p3.trans p4) (s3.trans s4) w)
  exact ⟨PE.weak (pe_chain ho ho' ha.w hb.w hc.w hm) key, fun _ => pt_of (PT.weak (pt_chain ho ho' ha.w hb.w hc.w hm) fun σ H Q h => key σ H _ h), fun z => by simp [isBoolOp] at z⟩
/-! ### {} -/
theorem ee_dct0 : EE G X Wx (.Dict [] [] pos) (fun _ o => .ok (.w (.d (.dct []))) o) := EE.of (PE.weak pe_dnewK fun σ H Q ⟨ρ, τ, o, b, l, q⟩ => fun p hp => q _ _
  ⟨ρ, List.prefix_rfl, Stp.new hp, b.grow (Stp.new hp) (keepN hp), .dct upd_same ⟨b.zm.fresh hp, fun m => by have q := (b.av p m).1; rw [hp] at q; exact q⟩ (.inl ⟨[], rfl, rfl⟩) .nil⟩) rfl
/-! ### stores, the value a comprehension or not -/
def isNm : Expr → Bool
  | .Name _ _ => true
  | _ => false
theorem sole_tg {e t : Expr} {n : Nat} {env : Env} (h : isNm t = false) : swapsWithSole [t] e n env = pure false := by
  unfold swapsWithSole swapsWith
  cases e <;> first | rfl | (cases t <;> first | rfl | (simp [isNm] at h))
theorem swaps_tg {e t : Expr} {n : Nat} {env : Env} (h : isNm t = false) : swapsWith e (some t) n env = pure false := by
  unfold swapsWith
  cases e <;> first | rfl | (cases t <;> first | rfl | (simp [isNm] at h))
theorem swaps_nl {e : Expr} {x : Str} {p : Pos} {n : Nat} {env : Env} (h : (env.kindOf x == some .local) = false) : swapsWith e (some (.Name x p)) n env = pure false := by
  unfold swapsWith
  cases e <;> first | rfl | (simp [h])
end
end Mi
end
section
set_option linter.all false
set_option Elab.async false
set_option maxHeartbeats 2000000
set_option autoImplicit false
namespace Mi
open PySem PySem.Spec PyProof.Rows L2 LamX
section
variable {G : Gx} {X : L2.Cx} {Wx : WX} {pos : Pos} {a b c e : Expr} {es : List Expr} {r : Sg → List Ob → R (List W)} {va vb vc : Sg → List Ob → R Val} {cx : Cx}
variable {ρ ρ1 zs : List Addr} {H H1 H2 : Hp} {o o1 : List Ob} {D : Ends} {σ : L2.St} {τ : Sg}
/-! ### a[i], b[j] = .. -/
abbrev Prs := List ((Sg → List Ob → R Val) × (Sg → List Ob → R Val))
def gI (G : Gx) (Wx : WX) (rs : Prs) : TGs := fun vs σ H Q => ∃ ρ τ o ws, Obs G ρ ρ H o ∧ Sl G ρ ρ H τ σ ∧ RWs G ρ ρ H ws vs ∧ Mi.SP G Wx ρ H { nx := Q, rt := fun _ _ => False } (storeAll rs ws τ o)
theorem pgs_I0 : PGs X [] (gI G Wx []) := PGs.weak pgs_nil fun vs σ H Q ⟨ρ, τ, o, ws, b, l, r, q⟩ => by
  cases r with
  | nil => exact ⟨rfl, q σ H (post_n b l)⟩
  | cons _ _ => exact False.elim q
theorem pgs_I1 {oe ie : Expr} {tp : Pos} {rs : Prs} (hs : isSlice ie = false) (ho : EE G X Wx oe va) (hi : EE G X Wx ie vb) (h : PGs X es (gI G Wx rs)) : PGs X (.Subscript oe ie tp :: es) (gI G Wx ((va, vb) :: rs)) :=
  PGs.weak (pgs_cons (pg_sub ho.w hi.w (set_W (G := G)) (subAssign hs)) h (by rw [assignEach_cons rfl]; rfl)) fun vs σ H Q ⟨ρ, τ, o, ws, b, l, r, q⟩ => by
    cases r with
    | nil => exact False.elim q
    | @cons w v ws vs rw' rws =>
      refine ⟨v, vs, rfl, ρ, τ, o, b, l, (SP.bnd (f := fun x o1 => bndS (asW (vb τ o1)) τ fun y o2 => match y with
        | .d k => match setiW o2 x k w with
          | some o3 => storeAll rs ws τ o3
          | none => .bad
        | .loc _ => .bad) q l b.zm).mono fun x o1 q v1 H1 hp => ?_⟩
      obtain ⟨ρ1, p1, s1, b1, rx⟩ := hp
      have l1 := l.step p1 s1 b.zm
      refine ⟨ρ1, τ, o1, b1, l1, (SP.bnd (f := fun y o2 => match y with
        | .d k => match setiW o2 x k w with
          | some o3 => storeAll rs ws τ o3
          | none => .bad
        | .loc _ => .bad) (q.lift p1 s1) l1 b1.zm).mono fun y o2 q v2 H2 hp => ?_⟩
      obtain ⟨ρ2, p2, s2, b2, ry⟩ := hp
      have l2 := l1.step p2 s2 b1.zm
      have rw2 := (rw'.step p1 s1 b.zm).step p2 s2 b1.zm
      have rws2 := RWs.step p2 s2 b1.zm (RWs.step p1 s1 b.zm rws)
      cases y with
      | loc _ => exact False.elim q
      | d k =>
        cases z : setiW o2 x k w with
        | none => simp only [z] at q; exact False.elim q
        | some o3 =>
          simp only [z] at q
          refine ⟨ρ2, o2, x, k, w, o3, b2, rx.step p2 s2 b1.zm, ry, rw2, z, fun H3 hp3 => ?_⟩
          obtain ⟨ρ3, p3, s3, b3⟩ := hp3
          exact ⟨ρ3, τ, o3, ws, b3, l2.step p3 s3 b2.zm, RWs.step p3 s3 b2.zm rws2, SP.lift q (p2.trans p3) (s2.trans s3)⟩
def isSubE : Expr → Bool
  | .Subscript _ _ _ => true
  | _ => false
theorem sub_names {f : Expr → Option Str} (hf : ∀ x, isSubE x = true → f x = none) : ∀ {ts : List Expr}, ts.all isSubE = true → ts.filterMap f = []
  | [], _ => rfl
  | t :: ts, h => by
    rw [List.all_cons, Bool.and_eq_true] at h
    rw [List.filterMap_cons, hf t h.1]
    exact sub_names hf h.2
theorem swS_none {ts : List Expr} {e : Expr} {k : Nat} {p : Pos} {env : Env} (h : ts.all isSubE = true) : swappedStores [.Tuple ts k p] e env = pure none := by
  unfold swappedStores
  cases e <;> first | rfl | skip
  rename_i vs k2 p2
  simp only
  by_cases h1 : (!(ts.length == 2 || ts.length == 3) || vs.length != ts.length || env.blockKind != .function) = true
  · rw [if_pos h1]
  · rw [if_neg h1]
    have hl : ts.length ≠ 0 := fun z => h1 (by simp [z])
    split
    · rfl
    · rw [sub_names (fun x hx => by cases x <;> first | rfl | (simp [isSubE] at hx)) h]
      have h3 : (([] : List Str).length != ts.length || ([] : List Str).eraseDups.length != ([] : List Str).length) = true := by
        simp; omega
      rw [if_pos h3]
theorem pgs_star {env : Env} : ∀ {ts : List Expr}, ts.all isSubE = true → ts.all (fun e => !isStar e) = true
  | [], _ => rfl
  | t :: ts, h => by
    rw [List.all_cons, Bool.and_eq_true] at h ⊢
    exact ⟨by cases t <;> first | rfl | (simp [isSubE] at h), pgs_star (env := env) h.2⟩
def plainSR : SR → Prop
  | .next _ _ => True
  | .exc _ _ _ => True
  | .bad => True
  | _ => False
theorem storeAll_kind : ∀ {rs : Prs} {ws : List W} {τ : Sg} {o : List Ob}, plainSR (storeAll rs ws τ o)
  | [], [], _, _ => trivial
  | [], _ :: _, _, _ => trivial
  | (va, vb) :: rs, [], _, _ => trivial
  | (va, vb) :: rs, w :: ws, τ, o => by
    unfold storeAll
    cases asW (va τ o) with
    | bad => trivial
    | exc e o1 => trivial
    | ok x o1 =>
      dsimp only [bndS]
      cases asW (vb τ o1) with
      | bad => trivial
      | exc e o2 => trivial
      | ok y o2 =>
        dsimp only
        cases y with
        | loc _ => trivial
        | d k =>
          dsimp only
          cases setiW o2 x k w with
          | none => trivial
          | some o3 => exact storeAll_kind
/-- a[i], b[j] = x, y: as many of both -/
theorem ps_parSE {ts : List Expr} {rs : Prs} {kt k2 : Nat} {pt pt2 : Pos} (hK : X.K = G.K) (hc : X.calm = true) (hs : ts.all isSubE = true) (hl : rs.length = ts.length) (hle : es.length = ts.length) (h : PGs X ts (gI G Wx rs)) (ha : PA X es (tA G Wx r))
    (hra : ∀ τ o ws o', r τ o = .ok ws o' → ws.length = es.length) (hsz : ts.length ≤ line) :
    PS X (.Assign [.Tuple ts kt pt] (.Tuple es k2 pt2) pos) (tS G Wx fun τ o => bndS (r τ o) τ fun ws o2 => storeAll rs ws τ o2) :=
  PS.weak (ps_asg (pe_tupF ha) (pg_tup hc h (each_len (pgs_star (env := X.env) hs)).1 (each_len (pgs_star (env := X.env) hs)).2) (sole_no rfl) (swS_none hs) (by rfl)) fun D σ H q => by
    obtain ⟨ρ, τ, o, b, l, q⟩ := q
    refine ⟨ρ, τ, o, b, l, ?_⟩
    have q := SP.bnd (f := fun ws o2 => storeAll rs ws τ o2) q l b.zm
    cases z : r τ o with
    | bad => rw [z] at q; exact q
    | exc e o1 => rw [z] at q; exact q
    | ok ws o1 =>
      rw [z] at q
      intro vs H1 hp
      obtain ⟨ρ1, p1, s1, b1, rws⟩ := hp
      have hws := hra _ _ _ _ z
      have hvs : vs.length = ts.length := by rw [← rws.length, hws, hle]
      refine ⟨by rw [hvs, ← line_eq]; exact hsz, fun p ob hp hd => ?_⟩
      have s : Stp ρ1 H1 ρ1 (upd H1 p (.frz ob (.tup vs))) := Stp.new hp
      have bg := b1.grow s (keepN hp)
      refine ⟨p, vs, rfl, sqT_frz upd_same, hvs, ρ1, τ, o1, ws, bg, (l.step p1 s1 b.zm).step List.prefix_rfl s b1.zm, rws.step List.prefix_rfl s b1.zm, ?_⟩
      have q2 := SP.lift (SP.lift q p1 s1) List.prefix_rfl s
      cases y : storeAll rs ws τ o1 with
      | next τ' o' => rw [y] at q2; exact q2
      | ret _ _ => exact absurd (storeAll_kind (rs := rs) (ws := ws) (τ := τ) (o := o1)) (by rw [y]; exact fun z => z)
      | brk _ _ => exact absurd (storeAll_kind (rs := rs) (ws := ws) (τ := τ) (o := o1)) (by rw [y]; exact fun z => z)
      | cont _ _ => exact absurd (storeAll_kind (rs := rs) (ws := ws) (τ := τ) (o := o1)) (by rw [y]; exact fun z => z)
      | exc _ _ _ => rw [y] at q2; exact q2
      | bad => rw [y] at q2; exact q2
end
end Mi
end
section
set_option linter.all false
set_option Elab.async false
set_option maxHeartbeats 2000000
set_option autoImplicit false
namespace Mi
open PySem PySem.Spec PyProof.Rows L2 LamX
section
variable {G : Gx} {X : L2.Cx} {Wx : WX} {pos : Pos} {a b c e : Expr} {es : List Expr} {r : Sg → List Ob → R (List W)} {va vb vc : Sg → List Ob → R Val} {cx : Cx}
variable {ρ ρ1 zs : List Addr} {H H1 H2 : Hp} {o o1 : List Ob} {D : Ends} {σ : L2.St} {τ : Sg}
variable {Pre : List Addr → Sg → List Ob → L2.St → Hp → Prop} {ra rb : Sg → List Ob → SR} {σ0 : L2.St} {τ0 : Sg} {f c' : Addr} {q : Str}
abbrev seqR (ra rb : Sg → List Ob → SR) : Sg → List Ob → SR := fun τ o => match ra τ o with | .next τ1 o1 => rb τ1 o1 | x => x
theorem pss_consP {st : Stmt} {rest : List Stmt} (h1 : PS X st (tSP Pre G Wx ra)) (h2 : PSs X rest (tS G Wx rb)) : PSs X (st :: rest) (tSP Pre G Wx (seqR ra rb)) :=
  PSs.weak (pss_cons h1 h2) fun D σ H ⟨ρ, τ, o, p, b, l, q⟩ => by
    refine ⟨ρ, τ, o, p, b, l, ?_⟩
    cases z : ra τ o with
    | next τ1 o1 =>
      have q : Mi.SP G Wx ρ H D (seqR ra rb τ o) := q
      simp only [seqR, z] at q
      exact fun σ' H' hp => by
        obtain ⟨ρ1, p, s, b1, l1⟩ := hp
        exact ⟨ρ1, τ1, o1, b1, l1, SP.lift q p s⟩
    | _ =>
      have q : Mi.SP G Wx ρ H D (seqR ra rb τ o) := q
      simp only [seqR, z] at q; exact q
/-- a name stored ahead of the call; the lambda's own facts stand -/
theorem pss_setP {i : Nat} {x : Str} {pos' : Pos} {rest : List Stmt} (h0 : G.er = none) (h1 : i ≠ 0) (hN : X.N.Nodup) (hi : X.N[i]? = some x) (hx : Loc X.env.scope x) (hf : X.fn x = true ∨ X.env.scope.names.lookup x = some .local) (hc : isComp e = false) (he : EE G X Wx e va)
    (h2 : PSs X rest (tSP (PreL G σ0 τ0 f c' q) G Wx rb)) :
    PSs X (.Assign [.Name x pos'] e pos :: rest) (tSP (PreL G σ0 τ0 f c' q) G Wx (seqR (fun τ o => bndS (asW (va τ o)) τ fun w o1 => .next (τ.set i (some w)) o1) rb)) :=
  PSs.weak (pss_cons (ps_set hN hi hx he.w (swaps_no hc) hf) h2) fun D σ H ⟨ρ, τ, o, ⟨p1, p2, p3⟩, b, l, q⟩ => by
    refine ⟨ρ, τ, o, b, l, ?_⟩
    show RP G Wx ρ H σ _ (asW (va τ o))
    cases z : asW (va τ o) with
    | bad => simp only [seqR, z, bndS] at q; exact q
    | exc e o1 =>
      simp only [seqR, z, bndS] at q
      exact fun cls d H' hp => by
        obtain ⟨ρ1, p, s, b1, x⟩ := hp
        exact q cls d σ H' ⟨ρ1, p, s, b1, l.step p s b.zm, x⟩
    | ok w o1 =>
      simp only [seqR, z, bndS] at q
      intro v H1 hp
      obtain ⟨ρ1, p, s, b1, r1⟩ := hp
      refine ⟨ρ1, τ.set i (some w), o1, ⟨?_, s.ext _ _ p2 fun m => ?_, p3.step p s b.zm⟩, b1, (l.step p s b.zm).set i (no_er h0 i) r1, SP.lift q p s⟩
      · rw [List.getElem?_set_ne h1]; exact p1
      · have := b.zm _ m
        rw [p2] at this
        exact this.elim
/-- name = a() -/
theorem ps_actSet {i : Nat} {x : Str} {pos' : Pos} (h0 : G.er = none) (hN : X.N.Nodup) (hi : X.N[i]? = some x) (hx : Loc X.env.scope x) (hf : X.fn x = true ∨ X.env.scope.names.lookup x = some .local) (hc : isComp e = false)
    (act : PE X e (fun σZ HZ Q => σZ[0]? = some (some (.ref f)) ∧ HZ c' = some (CodeO c' q) ∧ tE G (fun cls d _ H => Wx cls d σZ H) va σ0 HZ Q)) :
    PS X (.Assign [.Name x pos'] e pos) (tSP (PreL G σ0 τ0 f c' q) G Wx (fun τ o => bndS (asW (va τ0 o)) τ fun w o1 => .next (τ.set i (some w)) o1)) :=
  PS.weak (ps_set hN hi hx act (swaps_no hc) hf) fun D σ H ⟨ρ, τ, o, ⟨h1, h2, h3⟩, b, l, p⟩ => by
    refine ⟨h1, h2, act_tE b h3 ?_⟩
    cases z : va τ0 o with
    | bad => simp only [z, asW, bnd, bndS] at p; exact p
    | exc e o1 =>
      simp only [z, asW, bnd, bndS] at p
      exact fun cls d H' hp => by
        obtain ⟨ρ1, pp, s, b1, x⟩ := hp
        exact p cls d σ H' ⟨ρ1, pp, s, b1, l.step pp s b.zm, x⟩
    | ok val o1 =>
      simp only [z, asW, bnd] at p
      cases y : settle val with
      | none => simp only [y, okO, bndS] at p; exact p.elim
      | some w =>
        simp only [y, okO, bndS] at p
        intro v H1 hp
        obtain ⟨ρ1, pp, s, b1, r1⟩ := settle_ok y hp
        exact p _ _ ⟨ρ1, pp, s, b1, (l.step pp s b.zm).set i (no_er h0 i) r1⟩
/-! ### comparisons of plain things -/
theorem op_cmpP (hK : X.K = G.K) (hu : X.A.units + 65 < cLine) (op : CmpOp) : OpR X (compareOp op) (rW2 G (cmpW cx0 op)) := by
  have no : ∀ {neg : Bool} {x y : V} {H : Hp} {Q : VK}, ¬ rOwnEq G cx0 neg x y H Q := fun {neg x y H Q} h => by
    obtain ⟨_, _, _, _, _, _, _, _, _, ⟨c, fs, q, _, _, _, e⟩, _⟩ := h
    simp [eqOwn, cx0] at e
  exact op_cmpW hK hu (fun _ _ _ _ _ _ _ _ _ _ _ _ h => (no h).elim) (fun _ _ _ _ _ _ _ _ _ _ _ _ h => (no h).elim) op
end
end Mi
end
section
set_option linter.all false
set_option Elab.async false
set_option maxHeartbeats 2000000
set_option autoImplicit false
namespace Mi
open PySem PySem.Spec PyProof.Rows L2 LamX
/-! ### the look: does the text say what the word says -/
/-- what the program's names are -/
structure Pg where
  fns : List (Str × Nat)
  cls : List (Str × Nat)
  ers : List (Str × (Nat × Option Nat))
  exc : List (Str × Nat)
  ks : List (Str × Int)
  free : List Str
  names : List Str
  thk : List (Str × Nat)
/-- where an expression stands -/
structure Sx where
  pg : Pg
  N : List Str
  sc : Scope
  fn : Str → Bool
  hot : Bool
  er : Option Nat
  lam : Option (Nat × Str)
def kd (S : Sx) (x : Str) : Option NameKind := S.sc.names.lookup x
def glB (S : Sx) (x : Str) : Bool := decide (kd S x = some .globalImplicit) && !(x == ("__debug__" : Str))
def frB (S : Sx) (x : Str) : Bool := glB S x && decide (x ∈ S.pg.free) && !(x == ("__name__" : Str))
def visB (S : Sx) (x : Str) : Bool := (match kd S x with
  | some .local => true
  | some .cell => true
  | some .free => true
  | _ => false) && !(x == ("__debug__" : Str)) && !(x == ("__classdict__" : Str))
def locB (S : Sx) (x : Str) : Bool := decide (kd S x = some .local) || (decide (kd S x = some .cell) && S.fn x)
def isSetE : Expr → Bool
  | .Set _ _ _ => true
  | _ => false
/-- the block of a comprehension -/
def Sx.blk (S : Sx) (scope : Scope) : Sx := { S with sc := relS scope S.sc, fn := fun x => scope.names.lookup x == some .cell, lam := none }
def ownP (N : List Str) (own : List Nat) : List (Str × Nat) := own.map fun i => (N.getD i default, i)
def blkB (N : List Str) (sc scope : Scope) (own : List Nat) : Bool :=
  decide (scope.kind = .function) && scope.names.all (fun y => decide (scope.names.lookup y.1 = some y.2)) && own.all (fun i => decide (i < N.length)) &&
  scope.names.all (fun y => !decide (y.2 = .free) || decide (sc.names.lookup y.1 = some .cell) || decide (sc.names.lookup y.1 = some .free)) &&
  scope.names.all (fun y => !(decide (y.2 = .local) || decide (y.2 = .cell)) || decide (y.1 ∈ (ownP N own).map (·.1)) || !decide (y.1 ∈ N))
def biName (b : Nat) : Option String :=
  if b = Bi.len then some "len" else if b = Bi.tup then some "tuple" else if b = Bi.lst then some "list" else if b = Bi.abs then some "abs" else if b = Bi.int then some "int" else if b = Bi.sum then some "sum"
  else if b = Bi.max then some "max" else if b = Bi.min then some "min" else if b = Bi.all then some "all" else if b = Bi.any then some "any" else if b = Bi.sorted then some "sorted" else if b = Bi.repr then some "repr" else none
def biHot (b : Nat) : Bool := decide (b = Bi.len) || decide (b = Bi.tup) || decide (b = Bi.abs) || decide (b = Bi.int) || decide (b = Bi.repr)
def conB : D → Const → Bool
  | .int i, .int j => decide (i = j)
  | .bl i, .bool j => decide (i = j)
  | .non, .none => true
  | .str s, .str t => decide (s = t)
  | _, _ => false
def isNonE : E → Bool
  | .c .non => true
  | _ => false
def ownSub (ns own : List Nat) : Bool := ns.all fun i => decide (i ∈ own)
mutual
def chkT (S : Sx) : T → Expr → Bool
  | .n i, .Name x _ => decide (S.N[i]? = some x) && locB S x
  | .tup r, .Tuple es _ _ => es.all (fun e => !isStar e) && decide (tsLen r = es.length) && chkTs S r es
  | _, _ => false
def chkTs (S : Sx) : Ts → List Expr → Bool
  | .nil, [] => true
  | .cons t r, e :: es => !isStar e && chkT S t e && chkTs S r es
  | _, _ => false
end
mutual
def chkE (S : Sx) : E → Expr → Bool
  | .c d, e => match e with
    | .Constant k _ _ => conB d k
    | .Dict [] [] _ => match d with
      | .dct [] => true
      | _ => false
    | _ => false
  | .gc _ d, e => match d, e with
    | .int i, .Name x _ => glB S x && decide (S.pg.ks.lookup x = some i)
    | _, _ => false
  | .gf _, _ => false
  | .var i, e => match e with
    | .Name x _ => decide (S.N[i]? = some x) && visB S x
    | _ => false
  | .bin op a b, e => match e with
    | .BinOp x op' y _ => decide (op = op') && chkE S a x && chkE S b y
    | _ => false
  | .neg a, e => match e with
    | .UnaryOp .USub x _ => chkE S a x
    | _ => false
  | .cmp op a b, e => match e with
    | .Compare x [op'] [y] _ => !S.hot && decide (op = op') && !behindInMarks op y && chkE S a x && chkE S b y
    | _ => false
  | .cmpp op a b, e => match e with
    | .Compare x [op'] [y] _ => decide (op = op') && !behindInMarks op y && chkE S a x && chkE S b y
    | _ => false
  | .chain op op' a b c, e => match e with
    | .Compare x [p, p'] [y, z] _ => !S.hot && decide (op = p) && decide (op' = p') && !lastMarks [op, op'] [y, z] && chkE S a x && chkE S b y && chkE S c z
    | _ => false
  | .isc neg a d, e => match e with
    | .Compare x [p] [.Constant k _ _] _ => decide (p = if neg then .IsNot else .Is) && (match d with | .non => true | .bl _ => true | _ => false) && conB d k && chkE S a x
    | _ => false
  | .and a b, e => match e with
    | .BoolOp .And (x :: y :: rest) pos => chkE S a x && !isIfExp x && (match rest with
      | [] => chkE S b y && !isIfExp y
      | z :: r => chkE S b (.BoolOp .And (y :: z :: r) pos))
    | _ => false
  | .or a b, e => match e with
    | .BoolOp .Or (x :: y :: rest) pos => chkE S a x && !isIfExp x && (match rest with
      | [] => chkE S b y && !isIfExp y
      | z :: r => chkE S b (.BoolOp .Or (y :: z :: r) pos))
    | _ => false
  | .not a, e => match e with
    | .UnaryOp .Not x _ => chkE S a x && !isIfExp x
    | _ => false
  | .ite c a b, e => match e with
    | .IfExp x y z _ => chkE S c x && !isIfExp x && chkE S a y && chkE S b z
    | _ => false
  | .tup as, e => match e with
    | .Tuple es _ _ => chkA S as es
    | _ => false
  | .lst as, e => match e with
    | .List es _ => chkA S as es
    | _ => false
  | .alloc a, e => dflt e && chkE S a e
  | .comp own t it test elt, e => match e with
    | .ListComp el [⟨tg, iter, ifs, k⟩] scope _ => !S.hot && decide (k = 0) && blkB S.N S.sc scope own && !isSetE iter && ownSub (tSlots t) own && chkI S it tg iter && chkT (S.blk scope) t tg && chkE (S.blk scope) elt el && (match ifs with
      | [] => (match test with | .c (.bl true) => true | _ => false)
      | [y] => !isIfExp y && chkE (S.blk scope) test y
      | _ => false)
    | _ => false
  | .comp2 _ _ _ _ _ _ _ _ _, _ => false
  | .idx a i, e => match e with
    | .Subscript x y _ => !isSlice y && chkE S a x && chkE S i y
    | _ => false
  | .sl bl bh a lo hi, e => match e with
    | .Subscript x (.Slice l h none _) _ => chkE S a x && (match l with | none => !bl && isNonE lo | some y => bl && chkE S lo y) && (match h with | none => !bh && isNonE hi | some y => bh && chkE S hi y)
    | _ => false
  | .rev a, e => match e with
    | .Subscript x (.Slice none none (some (.UnaryOp .USub (.Constant (.int 1) _ _) _)) _) _ => chkE S a x
    | _ => false
  | .attr a f, e => match e with
    | .Attribute x n _ => decide (S.pg.names[f]? = some n) && noArgs x && chkE S a x
    | _ => false
  | .call f as, e => match e with
    | .Call (.Name x _) es [] _ => !S.hot && glB S x && decide (S.pg.fns.lookup x = some f) && chkA S as es
    | _ => false
  | .mk c as, e => match e with
    | .Call (.Name x _) (y :: es) [] _ => !S.hot && glB S x && decide (S.pg.cls.lookup x = some c) && chkA S as (y :: es)
    | _ => false
  | .bi b as, e => match e with
    | .Call (.Name x _) (y :: es) [] _ => (!S.hot || biHot b) && frB S x && (match biName b with | some n => decide (x = Str.ofString n) | none => false) && chkA S as (y :: es)
    | _ => false
  | .isi t a, e => match e with
    | .Call (.Name n _) [x, .Name y _] [] _ => frB S n && decide (n = Str.ofString "isinstance") && frB S y && (match tyName t with | some z => decide (y = Str.ofString z) | none => false) && !isStar x && chkE S a x
    | _ => false
  | .iso c a, e => match e with
    | .Call (.Name n _) [x, .Name y _] [] _ => !S.hot && frB S n && decide (n = Str.ofString "isinstance") && glB S y && decide (S.pg.cls.lookup y = some c) && !isStar x && chkE S a x
    | _ => false
  | .coll b as, e => match e with
    | .Call (.Name n _) [.Call (.Name m _) es [] _] [] _ => !S.hot && frB S n && frB S m && decide (m = Str.ofString "range") && ((decide (b = Bi.lst) && decide (n = Str.ofString "list")) || (decide (b = Bi.tup) && decide (n = Str.ofString "tuple"))) && (decide (es.length = 1) || decide (es.length = 2)) && chkA S as es
    | _ => false
  | .mth m r as, e => match e with
    | .Call (.Attribute x n ap) [y] [] cp => ((decide (m = Mt.index) && decide (n = Str.ofString "index")) || (decide (m = Mt.count) && decide (n = Str.ofString "count"))) && noArgs x && (ap.endLine == cp.line) && chkE S r x && chkA S as [y]
    | _ => false
  | .mut m r as, e => match e with
    | .Call (.Attribute x n ap) es [] cp => ((decide (m = Mt.append) && decide (n = Str.ofString "append")) || (decide (m = Mt.pop) && decide (n = Str.ofString "pop")) || (decide (m = Mt.extend) && decide (n = Str.ofString "extend"))) && noArgs x && (ap.endLine == cp.line) && chkE S r x && decide (es.length ≤ 1) && chkA S as es
    | _ => false
  | .lam f j q body, e => match e with
    | .Call (.Name x _) [.Lambda ⟨[], [], none, [], [], none, []⟩ b scope _] [] _ => !S.hot && glB S x && decide (S.lam = some (j, q)) && decide (S.pg.thk.lookup x = some f) && lamSB S.sc scope && chkE { S with sc := scope, fn := fun _ => false, lam := none } body b
    | _ => false
  | .thk, _ => false
  | .exis i c, e => match e with
    | .Call (.Name n _) [.Name y _, .Name z _] [] _ => decide (S.er = some i) && frB S n && decide (n = Str.ofString "isinstance") && decide (S.N[i]? = some y) && visB S y && glB S z && decide (S.pg.exc.lookup z = some c)
    | _ => false
  | .exat i f, e => match e with
    | .Attribute (.Name y _) n _ => decide (S.er = some i) && decide (S.pg.names[f]? = some n) && decide (S.N[i]? = some y) && visB S y
    | _ => false
def chkA (S : Sx) : A → List Expr → Bool
  | .nil, [] => true
  | .cons e r, x :: xs => !isStar x && chkE S e x && chkA S r xs
  | _, _ => false
def chkI (S : Sx) : I → Expr → Expr → Bool
  | .of e, _, x => chkE S e x
  | .range as, _, x => match x with
    | .Call (.Name n _) es [] _ => frB S n && decide (n = Str.ofString "range") && (decide (es.length = 1) || decide (es.length = 2)) && chkA S as es
    | _ => false
  | .enum e, tg, x => match tg, x with
    | .Tuple _ _ _, .Call (.Name n _) [y] [] _ => frB S n && decide (n = Str.ofString "enumerate") && !isStar y && chkE S e y
    | _, _ => false
  | .zip a b, tg, x => match tg, x with
    | .Tuple _ _ _, .Call (.Name n _) [y, z] [] _ => frB S n && decide (n = Str.ofString "zip") && !isStar y && !isStar z && chkE S a y && chkE S b z
    | _, _ => false
  | .rev _, _, _ => false
  | .items _, _, _ => false
end
end Mi
end
section
set_option linter.all false
set_option Elab.async false
set_option maxHeartbeats 2000000
set_option autoImplicit false
namespace Mi
open PySem PySem.Spec PyProof.Rows L2 LamX
/-! ### what is known of the program -/
structure PgOk (pg : Pg) (T : Tab) (wf d : Nat) (G : Gx) (P : Program) (w : World) (K : PySem.W.Frag) (mg : Str → Option Value) (base : Heap) : Prop where
  C : ClsOk G
  nm : G.names = pg.names
  eg : ErrG G
  fr : ∀ x ∈ pg.free, mg x = none
  ks : ∀ x i, pg.ks.lookup x = some i → ∃ t, mg x = some (.int i t)
  fn : ∀ x i, pg.fns.lookup x = some i → ∃ f fd ps n, mg x = some (.ref f) ∧ PySem.W.keepIn K (.ref f) = true ∧ Binds K fd ps [] ∧ (∀ ws o, run T wf d i none ws o ≠ .bad → ws.length = n) ∧
    FnG P w K mg base (L2.CX P w) (4 * d) f fd ps (spM G (fun ws o => run T wf d i none ws o) n)
  cl : ∀ x c, pg.cls.lookup x = some c → ∃ C cl fi f fd ps n, mg x = some (.ref C) ∧ (G.ga c = some C ∧ G.isC c = true) ∧ T.cl c = some cl ∧ cl.init = some fi ∧ Mk K C f ∧ Binds K fd ps [] ∧ (∀ ws o, run T wf d fi none ws o ≠ .bad → ws.length = n) ∧
    FnG P w K mg base (L2.CX P w) (4 * d) f fd ps (spM G (fun ws o => run T wf d fi none ws o) n)
  own : ∀ c C, G.ga c = some C → G.isC c = true → ∀ g, (T.cl c).bind (·.eqm) = some g → ∃ f fd ps, OwnQ G C f ∧ Binds K fd ps [] ∧ FnG P w K mg base (L2.CX P w) (4 * d) f fd ps (spM G (fun ws o => run T wf d g none ws o) 2)
  er : ∀ x c fo, pg.ers.lookup x = some (c, fo) → ∃ C cl, mg x = some (.ref C) ∧ (G.ga c = some C ∧ G.isE c = true) ∧ T.cl c = some cl ∧ cl.ex = some fo.toList ∧ (∀ kf, fo = some kf → ∃ f, pg.names[kf]? = some f ∧ ErrOk P K mg C (some f)) ∧ (fo = none → ErrOk P K mg C none)
  exc : ∀ x c, pg.exc.lookup x = some c → ∃ v u, ClsV v u ∧ (mg x = some u ∨ (mg x = none ∧ bootBuiltins x = some u ∧ x ≠ "__name__")) ∧ (∀ k C, G.ga k = some C → G.isE k = true → PySem.W.exmOne K (.ref C) u = some (T.sub k c)) ∧ ∀ k C, G.ga k = some C → G.isE k = true → PySem.W.kitOne G.K (.ref C) u = some (T.sub k c)
theorem PgOk.gA {pg : Pg} {T : Tab} {wf d : Nat} {G : Gx} {P : Program} {w : World} {K : PySem.W.Frag} {mg : Str → Option Value} {base : Heap} (h : PgOk pg T wf d G P w K mg base) (A : List Addr) : PgOk pg T wf d (gA G A) P w K mg base :=
  ⟨⟨h.C.cls, h.C.noat, h.C.nd, h.C.ty, h.C.kt, h.C.ko, h.C.kk⟩, h.nm, ⟨h.eg.xf, h.eg.no, h.eg.cl⟩, h.fr, h.ks, h.fn, h.cl, fun c C a b g e => by
    obtain ⟨f, fd, ps, O, r⟩ := h.own c C a b g e
    exact ⟨f, fd, ps, ⟨O.fq, O.isf, O.fnq, O.sub, O.nf, O.nc⟩, r⟩, h.er, h.exc⟩
theorem PgOk.gE {pg : Pg} {T : Tab} {wf d : Nat} {G : Gx} {P : Program} {w : World} {K : PySem.W.Frag} {mg : Str → Option Value} {base : Heap} (h : PgOk pg T wf d G P w K mg base) : ClsOk G ∧ G.names = pg.names ∧ ErrG G := ⟨h.C, h.nm, h.eg⟩
/-- the defs that get a lambda -/
def LamP (pg : Pg) (T : Tab) (wf d : Nat) (G : Gx) (X : L2.Cx) : Prop := ∀ x fid, pg.thk.lookup x = some fid → ∀ d', d = d' + 1 → ∃ (a : Str) (g : Addr) (pr : Arguments) (bg : List Stmt) (sg : Scope) (dV kV doc pm cdv ct oc : Value) (an od : Option Addr) (osl : Array (Option Value)) (Ng : List Str) (fn : Fn),
  X.mg x = some (.ref g) ∧ PySem.W.keepIn X.K (.ref g) = true ∧ X.K.lookup g = some ⟨oc, od, .func (PySem.W.fnOf x x pr bg sg dV kV doc pm an cdv ct), osl⟩ ∧ PySem.W.codeIn X.K cdv x = true ∧ L2.Binds X.K (PySem.W.fnOf x x pr bg sg dV kV doc pm an cdv ct) [a] [] ∧ FnScope Ng [a] sg ∧ Ng[0]? = some a ∧ Vis sg a ∧
  T.fn fid = some fn ∧ T.nat fid = none ∧ Ng.length = fn.ns ∧ fn.np = 0 ∧ 0 < fn.ns ∧ (a == ("__debug__" : Str)) = false ∧ (a == ("__classdict__" : Str)) = false ∧
  ThkB (4 * d' + 2) G X Ng x sg g cdv bg a (X.env.qual ++ "<lambda>") fun thk => evB ⟨T, run T wf d', wf, some thk, none⟩ fn.body
/-- what stands where an expression stands -/
structure Gd (S : Sx) (T : Tab) (wf d : Nat) (cur : Option Ex) (G : Gx) (X : L2.Cx) (Wx : WX) : Prop where
  nm : G.names = S.pg.names
  C : ClsOk G
  fr : ∀ x ∈ S.pg.free, X.mg x = none
  ks : ∀ x i, S.pg.ks.lookup x = some i → ∃ t, X.mg x = some (.int i t)
  hK : X.K = G.K
  N : X.N = S.N
  nd : S.N.Nodup
  sc : X.env.scope = S.sc
  hu : X.A.units + 65 < cLine
  gd : X.A.guards = some []
  fn : ∀ x, S.fn x = true → X.fn x = true
  tk : Takes X Wx
  cold : S.hot = false → G.er = none ∧ X.calm = true ∧ RoomG (4 * d + 1) X.A ∧ PgOk S.pg T wf d G X.prog X.w X.K X.mg X.base
  er : ∀ i, S.er = some i → ∃ (G0 : Gx) (X0 : L2.Cx) (a : Addr) (oe : Obj) (cls : Value) (dd : Option Addr) (pn : List (Addr × Obj)) (x : Ex), G = Mi.gE G0 ⟨i, a, x, cls, dd⟩ ∧ X = X0.suite a ((a, oe) :: pn) ∧ Wx = W0 ∧ Zc cls dd oe ∧ (∃ vs, oe.data = .fields vs) ∧ cur = some x ∧ PgOk S.pg T wf d G0 X0.prog X0.w X0.K X0.mg X0.base
  ers : ∀ e, G.er = some e → S.er = some e.slot
  lam : ∀ j q, S.lam = some (j, q) → RoomG (4 * d + 3) X.A ∧ X.env.qual ++ "<lambda>" = q ∧ (∃ c, TabB X.base X.mg c (G.tp j) ∧ X.env.code = .ref c) ∧ LamP S.pg T wf d G X
section
variable {T : Tab} {wf d : Nat} {cur : Option Ex} {S : Sx} {G : Gx} {X : L2.Cx} {Wx : WX}
theorem takesF {X : L2.Cx} : Takes X W0 := fun _ _ x => by
  obtain ⟨_, _, _, _, _, _, _, _, _, _, _, _, _, _, _, _, z⟩ := x
  exact z.elim
/-- within a comprehension -/
theorem Gd.blk (g : Gd S T wf d cur G X Wx) (hc : S.hot = false) (he : S.er = none) (scope : Scope) (s : Shared) (H : Hp) (C : Addr) (cl : List (Str × Addr)) (fp : List Addr) (D : Addr) :
    Gd (S.blk scope) T wf d cur (gD G D) (X.blk s H scope (compEnvC scope cl C X.env) fp) W0 where
  nm := g.nm
  C := ⟨g.C.cls, g.C.noat, g.C.nd, g.C.ty, g.C.kt, g.C.ko, g.C.kk⟩
  fr := g.fr
  ks := g.ks
  hK := g.hK
  N := g.N
  nd := g.nd
  sc := by
    show relabel scope X.env = relS scope S.sc
    rw [← g.sc]
    rfl
  hu := g.hu
  gd := g.gd
  fn := fun x h => h
  tk := takesF
  cold := fun _ => ⟨(g.cold hc).1, (g.cold hc).2.1, (g.cold hc).2.2.1, (g.cold hc).2.2.2.gA _⟩
  er := fun i h => by
    have h : S.er = some i := h
    rw [he] at h; cases h
  ers := fun e h => g.ers e h
  lam := fun j q h => by cases h
theorem RoomG.hu {k : Nat} {A : Around} (r : RoomG k A) : A.units + 65 < cLine := by have := r.room.un; omega
/-- within a lambda -/
theorem Gd.lamB (g : Gd S T wf d cur G X Wx) (hc : S.hot = false) (he : S.er = none) (scope : Scope) (A : Around) (outer : List Env) (s : Shared) (H : Hp) (E : XK) (f c' : Addr) (hr : RoomG (4 * d + 1) (A.deeper (lamEnv X scope s.heap.objs.size f c'))) :
    Gd { S with sc := scope, fn := fun _ => false, lam := none } T wf d cur G (lamCx X A outer s H E scope f c') (fun cls d _ H => E cls d H) where
  nm := g.nm
  C := g.C
  fr := g.fr
  ks := g.ks
  hK := g.hK
  N := g.N
  nd := g.nd
  sc := rfl
  hu := hr.hu
  gd := hr.gd
  fn := fun x h => by cases h
  tk := takes_of rfl rfl rfl rfl
  cold := fun _ => ⟨(g.cold hc).1, rfl, hr, (g.cold hc).2.2.2⟩
  er := fun i h => by
    have h : S.er = some i := h
    rw [he] at h; cases h
  ers := g.ers
  lam := fun j q h => by cases h
/-! ### names -/
theorem band {a b : Bool} (h : (a && b) = true) : a = true ∧ b = true := Bool.and_eq_true_iff.mp h
theorem bnot {a : Bool} (h : (!a) = true) : a = false := by simpa using h
theorem glB_ok (g : Gd S T wf d cur G X Wx) {x : Str} (h : glB S x = true) : Gl X x ∧ (x == ("__debug__" : Str)) = false := by
  obtain ⟨h1, h2⟩ := band h
  have h1 := of_decide_eq_true h1
  exact ⟨by unfold Gl Env.kindOf; rw [g.sc]; exact h1, bnot h2⟩
theorem frB_ok (g : Gd S T wf d cur G X Wx) {x : Str} (h : frB S x = true) : Gl X x ∧ (x == ("__debug__" : Str)) = false ∧ X.mg x = none ∧ (x == ("__name__" : Str)) = false := by
  obtain ⟨h1, h2⟩ := band h
  obtain ⟨h1, h3⟩ := band h1
  obtain ⟨h4, h5⟩ := glB_ok g h1
  exact ⟨h4, h5, g.fr x (of_decide_eq_true h3), bnot h2⟩
theorem visB_ok (g : Gd S T wf d cur G X Wx) {x : Str} (h : visB S x = true) : Vis X.env.scope x ∧ (x == ("__debug__" : Str)) = false ∧ (x == ("__classdict__" : Str)) = false := by
  obtain ⟨h1, h2⟩ := band h
  obtain ⟨h1, h3⟩ := band h1
  refine ⟨?_, bnot h3, bnot h2⟩
  rw [g.sc]
  unfold Vis
  unfold kd at h1
  split at h1 <;> simp_all
theorem locB_ok (g : Gd S T wf d cur G X Wx) {x : Str} (h : locB S x = true) : L2.Loc X.env.scope x ∧ (X.fn x = true ∨ X.env.scope.names.lookup x = some .local) := by
  rw [g.sc]
  unfold locB kd at h
  rcases Bool.or_eq_true_iff.mp h with h | h
  · have h := of_decide_eq_true h
    exact ⟨.inl h, .inr h⟩
  · obtain ⟨h1, h2⟩ := band h
    exact ⟨.inr (of_decide_eq_true h1), .inl (g.fn x h2)⟩
theorem ownP_snd {N : List Str} {own : List Nat} : (ownP N own).map (·.2) = own := by
  unfold ownP
  rw [List.map_map]
  exact List.map_id _
theorem blkB_ok {N : List Str} {sc scope : Scope} {own : List Nat} (h : blkB N sc scope own = true) : BlkOk N sc scope (ownP N own) := by
  unfold blkB at h
  simp only [Bool.and_eq_true, Bool.or_eq_true, Bool.not_eq_true', decide_eq_true_eq, decide_eq_false_iff_not, List.all_eq_true] at h
  obtain ⟨⟨⟨⟨h1, h2⟩, h3⟩, h4⟩, h5⟩ := h
  refine ⟨h1, h2, fun p hp => ?_, fun y hy e => ?_, fun y hy e => ?_⟩
  · unfold ownP at hp
    obtain ⟨i, hi, rfl⟩ := List.mem_map.mp hp
    have := h3 i hi
    simp [List.getD, List.getElem?_eq_getElem this]
  · rcases h4 y hy with (z | z) | z
    · exact absurd e z
    · exact .inl z
    · exact .inr z
  · rcases h5 y hy with (z | z) | z
    · rcases e with e | e <;> simp [e] at z
    · exact .inl z
    · exact .inr z
theorem noSet {e : Expr} (h : isSetE e = false) {env : Env} (x : Value) : foldedSetIterable e env x = pure x := by
  cases e <;> first | rfl | (simp [isSetE] at h)
theorem ownSub_ok {ns own : List Nat} (h : ownSub ns own = true) : ∀ i ∈ ns, i ∈ own := fun i m => by
  have := List.all_eq_true.mp h i m
  exact of_decide_eq_true this
mutual
theorem chkT_ok (h0 : G.er = none) (hc : X.calm = true) (g : Gd S T wf d cur G X Wx) : ∀ (t : Mi.T) {e : Expr}, chkT S t e = true → PG X e (gT G t)
  | .n i, e, h => by
    unfold chkT at h
    split at h
    · rename_i h1
      cases h1
      obtain ⟨h1, h2⟩ := band h
      obtain ⟨h3, h4⟩ := locB_ok g h2
      exact pg_n h0 (g.N ▸ g.nd) (g.N ▸ of_decide_eq_true h1) h3 h4
    · rename_i h1; cases h1
    · cases h
  | .tup r, e, h => by
    unfold chkT at h
    split at h
    · rename_i h1; cases h1
    · rename_i h1
      cases h1
      obtain ⟨h1, h2⟩ := band h
      obtain ⟨h1, h3⟩ := band h1
      exact pg_t g.hK hc h1 (of_decide_eq_true h3) (chkTs_ok h0 hc g r h2)
    · cases h
theorem chkTs_ok (h0 : G.er = none) (hc : X.calm = true) (g : Gd S T wf d cur G X Wx) : ∀ (t : Ts) {es : List Expr}, chkTs S t es = true → PGs X es (gTs G t)
  | .nil, es, h => by
    unfold chkTs at h
    split at h
    · exact pgs_n
    · rename_i h1; cases h1
    · cases h
  | .cons t r, es, h => by
    unfold chkTs at h
    split at h
    · rename_i h1; cases h1
    · rename_i h1
      cases h1
      obtain ⟨h1, h2⟩ := band h
      obtain ⟨h1, h3⟩ := band h1
      exact pgs_c (bnot h1) (chkT_ok h0 hc g t h3) (chkTs_ok h0 hc g r h2)
    · cases h
end
end
end Mi
end
section
set_option linter.all false
set_option Elab.async false
set_option maxHeartbeats 4000000
set_option autoImplicit false
namespace Mi
open PySem PySem.Spec PyProof.Rows L2 LamX
section
variable {T : Tab} {wf d : Nat} {cur : Option Ex} {S : Sx} {G : Gx} {X : L2.Cx} {Wx : WX} {t : Option Thk}
/-- what is lacking tells nothing -/
theorem ee_bad {e : Expr} {va : Sg → List Ob → R Val} (h : ∀ τ o, va τ o = .bad) : EE G X Wx e va where
  pe := ⟨fun pins s σ H Q I ⟨ρ, τ, o, b, l, q⟩ => by rw [h] at q; exact q.elim⟩
  pt := fun _ => ⟨fun pins s σ H Q I ⟨ρ, τ, o, b, l, q⟩ => by simp only [h] at q; exact q.elim⟩
  pw := fun _ => ⟨fun wh pins s σ H Q I ⟨ρ, τ, o, b, l, q⟩ => by simp only [h] at q; exact q.elim⟩
theorem conB_ok {dd : D} {c : Const} {k : Nat} {pos : Pos} (h : conB dd c = true) : ∃ v, PE X (.Constant c k pos) (tC v) ∧ ∀ zs H, RD G zs H dd v := by
  cases dd <;> cases c <;> first | (cases h; done) | skip
  · exact ⟨_, pe_non, fun _ _ => .non⟩
  · have h := of_decide_eq_true h
    subst h
    exact ⟨_, pe_bl, fun _ _ => .bl _⟩
  · have h := of_decide_eq_true h
    subst h
    exact ⟨_, pe_int, fun _ _ => .int _⟩
  · have h := of_decide_eq_true h
    subst h
    exact ⟨_, pe_str, fun _ _ => .str _⟩
theorem conB_non {c : Const} (h : conB .non c = true) : c = .none := by cases c <;> first | rfl | cases h
theorem conB_bl {b : Bool} {c : Const} (h : conB (.bl b) c = true) : c = .bool b := by
  cases c <;> first | (cases h; done) | skip
  exact congrArg Const.bool (of_decide_eq_true h).symm
theorem Gd.noer (g : Gd S T wf d cur G X Wx) (h : S.hot = false) : S.er = none := by
  cases z : S.er with
  | none => rfl
  | some i =>
    obtain ⟨G0, X0, a, oe, cls, dd, pn, x, rfl, _⟩ := g.er i z
    have := (g.cold h).1
    cases this
theorem bi_call (hK : X.K = G.K) (g : Gd S T wf d cur G X Wx) {b : Nat} {n : String} (hn : biName b = some n) (hh : S.hot = false ∨ biHot b = true) : ∃ f, BiV (Str.ofString n) f ∧ CallR X f (rDs G (biD b)) := by
  have cl : biHot b = false → X.calm = true := fun z => by
    rcases hh with h | h
    · exact (g.cold h).2.1
    · rw [h] at z; cases z
  unfold biName at hn
  split at hn
  · rename_i e; subst e; cases hn; exact ⟨_, .fn (by decide +kernel), cb_len hK⟩
  split at hn
  · rename_i e; subst e; cases hn; exact ⟨_, .ty (by decide +kernel), cb_tup⟩
  split at hn
  · rename_i e; subst e; cases hn; exact ⟨_, .ty (by decide +kernel), cb_lst hK⟩
  split at hn
  · rename_i e; subst e; cases hn; exact ⟨_, .fn (by decide +kernel), cb_abs⟩
  split at hn
  · rename_i e; subst e; cases hn; exact ⟨_, .ty (by decide +kernel), cb_int⟩
  split at hn
  · rename_i e; subst e; cases hn; exact ⟨_, .fn (by decide +kernel), cb_sum (cl (by decide))⟩
  split at hn
  · rename_i e; subst e; cases hn; exact ⟨_, .fn (by decide +kernel), cb_max (cl (by decide))⟩
  split at hn
  · rename_i e; subst e; cases hn; exact ⟨_, .fn (by decide +kernel), cb_min (cl (by decide))⟩
  split at hn
  · rename_i e; subst e; cases hn; exact ⟨_, .fn (by decide +kernel), cb_all (cl (by decide))⟩
  split at hn
  · rename_i e; subst e; cases hn; exact ⟨_, .fn (by decide +kernel), cb_any (cl (by decide))⟩
  split at hn
  · rename_i e; subst e; cases hn; exact ⟨_, .fn (by decide +kernel), cb_sorted⟩
  split at hn
  · rename_i e; subst e; cases hn; exact ⟨_, .fn (by decide +kernel), cb_repr hK g.gd g.hu⟩
  · cases hn
theorem own_of (g : Gd S T wf d cur G X Wx) (hc : S.hot = false) : OwnF G X ⟨T, run T wf d, wf, t, cur⟩ (4 * d) := ⟨fun c C a b gg e => (g.cold hc).2.2.2.own c C a b gg e⟩
theorem cmp_of (g : Gd S T wf d cur G X Wx) (hc : S.hot = false) (op : CmpOp) : OpR X (compareOp op) (rW2 G (cmpW ⟨T, run T wf d, wf, t, cur⟩ op)) :=
  op_cmpW g.hK g.hu (op_ownEq g.hK g.C (own_of g hc) (g.cold hc).2.2.1) (op_ownNe g.hK g.C (own_of g hc) (g.cold hc).2.2.1) op
theorem len1 {es : List Expr} (h : es.length = 1) : ∃ x, es = [x] := by
  match es, h with
  | [x], _ => exact ⟨x, rfl⟩
theorem len2 {es : List Expr} (h : es.length = 2) : ∃ x y, es = [x, y] := by
  match es, h with
  | [x, y], _ => exact ⟨x, y, rfl⟩
theorem isinst_name {n : Str} (h : n = Str.ofString "isinstance") : n = ("isinstance" : Str) := h
mutual
theorem okE : ∀ (ir : E) {e : Expr} {S : Sx} {G : Gx} {X : L2.Cx} {Wx : WX}, Gd S T wf d cur G X Wx → chkE S ir e = true → EE G X Wx e (evE ⟨T, run T wf d, wf, t, cur⟩ ir)
  | .c dd, e, S, G, X, Wx, g, h => by
    unfold chkE at h
    split at h
    · obtain ⟨v, hp, hr⟩ := conB_ok (G := G) (X := X) h
      exact EE.of (pe_cD hp hr) rfl
    · split at h
      · exact ee_dct0
      · cases h
    · cases h
  | .gc x dd, e, S, G, X, Wx, g, h => by
    unfold chkE at h
    split at h
    · obtain ⟨h1, h2⟩ := band h
      obtain ⟨hg, hd⟩ := glB_ok g h1
      obtain ⟨tk, hm⟩ := g.ks _ _ (of_decide_eq_true h2)
      exact EE.of (pe_cD (pe_glob (v := .int _) hg hm ⟨_, rfl⟩ hd) fun _ _ => .int _) rfl
    · cases h
  | .gf x, e, S, G, X, Wx, g, h => by unfold chkE at h; cases h
  | .var i, e, S, G, X, Wx, g, h => by
    unfold chkE at h
    split at h
    · obtain ⟨h1, h2⟩ := band h
      obtain ⟨hv, hd, hcd⟩ := visB_ok g h2
      exact EE.of (pe_varD (pe_var (g.N ▸ of_decide_eq_true h1) hv hd hcd)) rfl
    · cases h
  | .bin op a b, e, S, G, X, Wx, g, h => by
    unfold chkE at h
    split at h
    · simp only [Bool.and_eq_true, decide_eq_true_eq] at h
      obtain ⟨⟨rfl, h2⟩, h3⟩ := h
      exact EE.of (pe_D2 (op_allD g.hK op) (okE a g h2).w (okE b g h3).w) rfl
    · cases h
  | .neg a, e, S, G, X, Wx, g, h => by
    unfold chkE at h
    split at h
    · exact EE.of (pe_D1 op_negD (okE a g h).w) rfl
    · cases h
  | .cmp op a b, e, S, G, X, Wx, g, h => by
    unfold chkE at h
    split at h
    · simp only [Bool.and_eq_true, decide_eq_true_eq, Bool.not_eq_true'] at h
      obtain ⟨⟨⟨⟨h1, rfl⟩, h3⟩, h4⟩, h5⟩ := h
      exact ee_cmp (cmp_of g h1 op) h3 (okE a g h4) (okE b g h5)
    · cases h
  | .cmpp op a b, e, S, G, X, Wx, g, h => by
    unfold chkE at h
    split at h
    · simp only [Bool.and_eq_true, decide_eq_true_eq, Bool.not_eq_true'] at h
      obtain ⟨⟨⟨rfl, h3⟩, h4⟩, h5⟩ := h
      exact ee_cmp (op_cmpP g.hK g.hu op) h3 (okE a g h4) (okE b g h5)
    · cases h
  | .chain op op' a b c, e, S, G, X, Wx, g, h => by
    unfold chkE at h
    split at h
    · simp only [Bool.and_eq_true, decide_eq_true_eq, Bool.not_eq_true'] at h
      obtain ⟨⟨⟨⟨⟨⟨h1, rfl⟩, rfl⟩, h4⟩, h5⟩, h6⟩, h7⟩ := h
      exact ee_chain (cmp_of g h1 op) (cmp_of g h1 op') h4 (okE a g h5) (okE b g h6) (okE c g h7)
    · cases h
  | .isc neg a dd, e, S, G, X, Wx, g, h => by
    unfold chkE at h
    split at h
    · simp only [Bool.and_eq_true, decide_eq_true_eq] at h
      obtain ⟨⟨⟨rfl, h2⟩, h3⟩, h4⟩ := h
      cases dd with
      | non =>
        have h3 := conB_non h3
        subst h3
        exact ee_isc rfl pe_non (op_iscN neg) (okE a g h4)
      | bl b =>
        have h3 := conB_bl h3
        subst h3
        exact ee_isc rfl pe_bl (op_iscB neg b) (okE a g h4)
      | _ => cases h2
    · cases h
  | .and a b, e, S, G, X, Wx, g, h => by
    unfold chkE at h
    split at h
    · obtain ⟨h1, h3⟩ := band h
      obtain ⟨h1, h2⟩ := band h1
      split at h3
      · obtain ⟨h3, h4⟩ := band h3
        exact ee_and (okE a g h1) (bnot h2) (.one (okE b g h3) (bnot h4))
      · exact ee_and (okE a g h1) (bnot h2) (.more (okE b g h3))
    · cases h
  | .or a b, e, S, G, X, Wx, g, h => by
    unfold chkE at h
    split at h
    · obtain ⟨h1, h3⟩ := band h
      obtain ⟨h1, h2⟩ := band h1
      split at h3
      · obtain ⟨h3, h4⟩ := band h3
        exact ee_or (okE a g h1) (bnot h2) (.one (okE b g h3) (bnot h4))
      · exact ee_or (okE a g h1) (bnot h2) (.more (okE b g h3))
    · cases h
  | .not a, e, S, G, X, Wx, g, h => by
    unfold chkE at h
    split at h
    · obtain ⟨h1, h2⟩ := band h
      exact ee_not (okE a g h1) (bnot h2)
    · cases h
  | .ite c a b, e, S, G, X, Wx, g, h => by
    unfold chkE at h
    split at h
    · obtain ⟨h1, h4⟩ := band h
      obtain ⟨h1, h3⟩ := band h1
      obtain ⟨h1, h2⟩ := band h1
      exact ee_ite (okE c g h1) (bnot h2) (okE a g h3) (okE b g h4)
    · cases h
  | .tup as, e, S, G, X, Wx, g, h => by
    unfold chkE at h
    split at h
    · exact ee_tup (okA as g h).1
    · cases h
  | .lst as, e, S, G, X, Wx, g, h => by
    unfold chkE at h
    split at h
    · exact ee_lst (okA as g h).1
    · cases h
  | .alloc a, e, S, G, X, Wx, g, h => by
    unfold chkE at h
    obtain ⟨h1, h2⟩ := band h
    exact ee_alloc (okE a g h2) h1
  | .comp own tt it test elt, e, S, G, X, Wx, g, h => by
    unfold chkE at h
    split at h
    · rename_i el tg iter ifs k scope pos
      simp only [Bool.and_eq_true, decide_eq_true_eq, Bool.not_eq_true'] at h
      obtain ⟨⟨⟨⟨⟨⟨⟨⟨h1, rfl⟩, h3⟩, h4⟩, h5⟩, h6⟩, h7⟩, h8⟩, h9⟩ := h
      have he := g.noer h1
      have c := g.cold h1
      have hifs : ∀ (s : Shared) (H : Hp) (C : Addr) (cl : List (Str × Addr)) (fp : List Addr), PTs (X.blk s H scope (compEnvC scope cl C X.env) fp) ifs (tTX G fun σ o => asT (evE ⟨T, run T wf d, wf, t, cur⟩ test σ o)) := fun s H C cl fp => by
        match ifs, h9 with
        | [], h9 =>
          simp only at h9
          split at h9
          · exact pts_0
          · cases h9
        | [y], h9 =>
          obtain ⟨h10, h11⟩ := band h9
          exact pts_1 (pt_X fun D => (okE test (g.blk h1 he scope s H C cl fp D) h11).pt (bnot h10))
        | _ :: _ :: _, h9 => cases h9
      have key := ee_comp (G := G) (X := X) (Wx := Wx) (wf := wf) (t := tt) (ri := evI ⟨T, run T wf d, wf, t, cur⟩ it) (rt := fun σ o => asT (evE ⟨T, run T wf d, wf, t, cur⟩ test σ o)) (re := fun σ o => asW (evE ⟨T, run T wf d, wf, t, cur⟩ elt σ o)) (own := ownP S.N own) (ifs := ifs) (scope := scope) (pos := pos) (elt := el) (tg := tg) (iter := iter)
        c.1 c.2.1 (g.N ▸ g.nd) (okI it g h1 h6) (by rw [g.N, g.sc]; exact blkB_ok h3)
        (fun s H C cl fp => pg_X fun D => chkT_ok (G := gD G D) (X := X.blk s H scope (compEnvC scope cl C X.env) fp) c.1 c.2.1 (g.blk h1 he scope s H C cl fp D) tt h7)
        hifs
        (fun s H C cl fp => pe_X fun D => (okE elt (g.blk h1 he scope s H C cl fp D) h8).w)
        (fun x => noSet h4 x) (by rw [ownP_snd]; exact ownSub_ok h5)
      rw [ownP_snd] at key
      exact key
    · cases h
  | .comp2 _ _ _ _ _ _ _ _ _, e, S, G, X, Wx, g, h => by unfold chkE at h; cases h
  | .idx a i, e, S, G, X, Wx, g, h => by
    unfold chkE at h
    split at h
    · obtain ⟨h1, h3⟩ := band h
      obtain ⟨h1, h2⟩ := band h1
      exact ee_idx g.hK (bnot h1) (okE a g h2) (okE i g h3)
    · cases h
  | .sl bl bh a lo hi, e, S, G, X, Wx, g, h => by
    unfold chkE at h
    split at h
    · rename_i x l hh p2 p1
      obtain ⟨h1, h3⟩ := band h
      obtain ⟨h1, h2⟩ := band h1
      have hl : PO X l (tPO G Wx bl fun τ o => asW (evE ⟨T, run T wf d, wf, t, cur⟩ lo τ o)) := by
        cases l with
        | none =>
          obtain ⟨h4, h5⟩ := band h2
          have h4 := bnot h4
          subst h4
          unfold isNonE at h5
          split at h5
          · exact po_no
          · cases h5
        | some y =>
          obtain ⟨h4, h5⟩ := band h2
          subst h4
          exact po_yes (okE lo g h5)
      have hg : PO X hh (tPO G Wx bh fun τ o => asW (evE ⟨T, run T wf d, wf, t, cur⟩ hi τ o)) := by
        cases hh with
        | none =>
          obtain ⟨h4, h5⟩ := band h3
          have h4 := bnot h4
          subst h4
          unfold isNonE at h5
          split at h5
          · exact po_no
          · cases h5
        | some y =>
          obtain ⟨h4, h5⟩ := band h3
          subst h4
          exact po_yes (okE hi g h5)
      exact ee_sl g.hK (okE a g h1) hl hg
    · cases h
  | .rev a, e, S, G, X, Wx, g, h => by
    unfold chkE at h
    split at h
    · exact ee_rev g.hK (okE a g h)
    · cases h
  | .attr a f, e, S, G, X, Wx, g, h => by
    unfold chkE at h
    split at h
    · simp only [Bool.and_eq_true, decide_eq_true_eq] at h
      obtain ⟨⟨h1, h2⟩, h3⟩ := h
      exact ee_attr g.hK g.C (by rw [g.nm]; exact h1) h2 (okE a g h3)
    · cases h
  | .call f as, e, S, G, X, Wx, g, h => by
    unfold chkE at h
    split at h
    · rename_i x p es pos
      simp only [Bool.and_eq_true, decide_eq_true_eq, Bool.not_eq_true'] at h
      obtain ⟨⟨⟨h1, h2⟩, h3⟩, h4⟩ := h
      obtain ⟨hg, hd⟩ := glB_ok g h2
      have c := g.cold h1
      obtain ⟨fa, fd, ps, n, hm, hk, hb, hn, F⟩ := c.2.2.2.fn x f h3
      obtain ⟨ha, hs⟩ := okA as g h4
      cases es with
      | nil =>
        cases as with
        | nil => exact ee_call0 F hn (c.2.2.1.mono (by omega)) hg hm hk hb g.tk hd
        | cons _ _ => unfold chkA at h4; cases h4
      | cons y ys => exact ee_call1 F hn (c.2.2.1.mono (by omega)) hg hm hk hb g.tk ha hs hd
    · cases h
  | .mk c as, e, S, G, X, Wx, g, h => by
    unfold chkE at h
    split at h
    · rename_i x p y es pos
      simp only [Bool.and_eq_true, decide_eq_true_eq, Bool.not_eq_true'] at h
      obtain ⟨⟨⟨h1, h2⟩, h3⟩, h4⟩ := h
      obtain ⟨hg, hd⟩ := glB_ok g h2
      have cc := g.cold h1
      obtain ⟨C, cl, fi, f, fd, ps, n, hm, hga, hcl, hin, M, hb, hn, F⟩ := cc.2.2.2.cl x c h3
      obtain ⟨ha, hs⟩ := okA as g h4
      exact ee_mk (cx := ⟨T, run T wf d, wf, t, cur⟩) cc.1 hga hcl hin M F hn cc.2.2.1 hg hm hb g.tk ha hs hd
    · cases h
  | .bi b as, e, S, G, X, Wx, g, h => by
    unfold chkE at h
    split at h
    · rename_i x p y es pos
      simp only [Bool.and_eq_true, Bool.or_eq_true, Bool.not_eq_true'] at h
      obtain ⟨⟨⟨h1, h2⟩, h3⟩, h4⟩ := h
      obtain ⟨hg, hd, hm, hn⟩ := frB_ok g h2
      split at h3
      · rename_i nm hnm
        have h3 := of_decide_eq_true h3
        subst h3
        obtain ⟨f, hb, hc⟩ := bi_call g.hK g hnm h1
        obtain ⟨ha, hs⟩ := okA as g h4
        exact ee_bi hb hc hg hm ha hs hn hd
      · cases h3
    · cases h
  | .isi tt a, e, S, G, X, Wx, g, h => by
    unfold chkE at h
    split at h
    · rename_i n p1 x y p2 pos
      simp only [Bool.and_eq_true, decide_eq_true_eq, Bool.not_eq_true'] at h
      obtain ⟨⟨⟨⟨⟨h1, rfl⟩, h3⟩, h4⟩, h5⟩, h6⟩ := h
      obtain ⟨hg, hd, hm, hn⟩ := frB_ok g h1
      obtain ⟨hg2, hd2, hm2, hn2⟩ := frB_ok g h3
      split at h4
      · rename_i z hz
        have h4 := of_decide_eq_true h4
        subst h4
        have hv : bootBuiltins (Str.ofString z) = some (.type z) := by
          have m := tyName_mem hz
          simp only [List.mem_cons, List.not_mem_nil, or_false] at m
          rcases m with rfl | rfl | rfl | rfl | rfl <;> decide +kernel
        exact ee_isX (fun x o e o1 => isiW_ne) (.ty z) (pe_bltn hg2 hm2 hv rfl (by simpa using hn2) hd2) (fun ρ H o o' x v val b rx e => isi_ok g.hK g.C hz b rx e) hg hm h5 rfl (okE a g h6)
      · cases h4
    · cases h
  | .iso c a, e, S, G, X, Wx, g, h => by
    unfold chkE at h
    split at h
    · rename_i n p1 x y p2 pos
      simp only [Bool.and_eq_true, decide_eq_true_eq, Bool.not_eq_true'] at h
      obtain ⟨⟨⟨⟨⟨⟨h0, h1⟩, rfl⟩, h3⟩, h4⟩, h5⟩, h6⟩ := h
      obtain ⟨hg, hd, hm, hn⟩ := frB_ok g h1
      obtain ⟨hg2, hd2⟩ := glB_ok g h3
      obtain ⟨C, cl, fi, f, fd, ps, nn, hm2, hga, _⟩ := (g.cold h0).2.2.2.cl y c h4
      exact ee_isX (fun x o e o1 => isoW_ne) (.own C) (pe_glob hg2 hm2 rfl hd2) (fun ρ H o o' x v val b rx e => iso_ok g.hK g.C hga b rx e) hg hm h5 rfl (okE a g h6)
    · cases h
  | .coll b as, e, S, G, X, Wx, g, h => by
    unfold chkE at h
    split at h
    · rename_i n p1 m p2 es p3 pos
      simp only [Bool.and_eq_true, Bool.or_eq_true, decide_eq_true_eq, Bool.not_eq_true'] at h
      obtain ⟨⟨⟨⟨⟨⟨h1, h2⟩, h3⟩, rfl⟩, h5⟩, h6⟩, h7⟩ := h
      obtain ⟨hg, hd, hm, hn⟩ := frB_ok g h2
      obtain ⟨hg2, hd2, hm2, hn2⟩ := frB_ok g h3
      have c := g.cold h1
      rcases h6 with h6 | h6
      · obtain ⟨x, rfl⟩ := len1 h6
        match as, h7 with
        | .cons ea .nil, h7 =>
          unfold chkA at h7
          obtain ⟨h7, _⟩ := band h7
          obtain ⟨h8, h9⟩ := band h7
          have ha := okE ea g h9
          rcases h5 with ⟨rfl, rfl⟩ | ⟨rfl, rfl⟩
          · exact ee_lstRg1 c.2.1 hg2 hm2 hg hm ha (bnot h8)
          · exact ee_tupRg1 c.2.1 hg2 hm2 hg hm ha (bnot h8)
        | .nil, h7 => cases h7
        | .cons _ (.cons _ _), h7 => unfold chkA at h7; simp [chkA] at h7
      · obtain ⟨x, y, rfl⟩ := len2 h6
        match as, h7 with
        | .cons ea (.cons eb .nil), h7 =>
          unfold chkA at h7
          obtain ⟨h7, h10⟩ := band h7
          obtain ⟨h8, h9⟩ := band h7
          unfold chkA at h10
          obtain ⟨h10, _⟩ := band h10
          obtain ⟨h11, h12⟩ := band h10
          have ha := okE ea g h9
          have hb := okE eb g h12
          rcases h5 with ⟨rfl, rfl⟩ | ⟨rfl, rfl⟩
          · exact ee_lstRg2 c.2.1 hg2 hm2 hg hm ha (bnot h8) hb (bnot h11)
          · exact ee_tupRg2 c.2.1 hg2 hm2 hg hm ha (bnot h8) hb (bnot h11)
        | .nil, h7 => cases h7
        | .cons _ .nil, h7 => simp [chkA] at h7
        | .cons _ (.cons _ (.cons _ _)), h7 => simp [chkA] at h7
    · cases h
  | .mth m r as, e, S, G, X, Wx, g, h => by
    unfold chkE at h
    split at h
    · rename_i x n ap y cp
      simp only [Bool.and_eq_true, Bool.or_eq_true, decide_eq_true_eq] at h
      obtain ⟨⟨⟨⟨h1, h2⟩, h3⟩, h4⟩, h5⟩ := h
      obtain ⟨ha, hs⟩ := okA as g h5
      have hs : isStar y = false := by simpa using hs
      rcases h1 with ⟨rfl, rfl⟩ | ⟨rfl, rfl⟩
      · exact ee_mth (mt_mth g.hK g.hu _ _ "list.index" (by simp)) (mt_mth g.hK g.hu _ _ "tuple.index" (by simp)) PySem.F.slot_list_index PySem.F.slot_tuple_index PySem.F.type_list_index PySem.F.type_tuple_index PySem.F.plainAttrs_list PySem.F.plainAttrs_tuple (okE r g h4) h2 ha hs h3
      · exact ee_mth (mt_mth g.hK g.hu _ _ "list.count" (by simp)) (mt_mth g.hK g.hu _ _ "tuple.count" (by simp)) PySem.F.slot_list_count PySem.F.slot_tuple_count PySem.F.type_list_count PySem.F.type_tuple_count PySem.F.plainAttrs_list PySem.F.plainAttrs_tuple (okE r g h4) h2 ha hs h3
    · cases h
  | .mut m r as, e, S, G, X, Wx, g, h => by
    unfold chkE at h
    split at h
    · rename_i x n ap es cp
      simp only [Bool.and_eq_true, Bool.or_eq_true, decide_eq_true_eq] at h
      obtain ⟨⟨⟨⟨⟨h1, h2⟩, h3⟩, h4⟩, h6⟩, h5⟩ := h
      obtain ⟨ha, hs⟩ := okA as g h5
      match es, as, h6, h5, ha, hs with
      | [], .nil, _, _, _, _ =>
        rcases h1 with (⟨rfl, rfl⟩ | ⟨rfl, rfl⟩) | ⟨rfl, rfl⟩
        · exact ee_mut0 mt_mutAppend PySem.F.slot_list_append PySem.F.type_list_append PySem.F.plainAttrs_list (okE r g h4) h2 h3
        · exact ee_mut0 mt_mutPop PySem.F.slot_list_pop PySem.F.type_list_pop PySem.F.plainAttrs_list (okE r g h4) h2 h3
        · exact ee_mut0 mt_mutExtend PySem.F.slot_list_extend PySem.F.type_list_extend PySem.F.plainAttrs_list (okE r g h4) h2 h3
      | [y], as, _, _, ha, hs =>
        have hs : isStar y = false := by simpa using hs
        rcases h1 with (⟨rfl, rfl⟩ | ⟨rfl, rfl⟩) | ⟨rfl, rfl⟩
        · exact ee_mut1 mt_mutAppend PySem.F.slot_list_append PySem.F.type_list_append PySem.F.plainAttrs_list (okE r g h4) h2 ha hs h3
        · exact ee_mut1 mt_mutPop PySem.F.slot_list_pop PySem.F.type_list_pop PySem.F.plainAttrs_list (okE r g h4) h2 ha hs h3
        · exact ee_mut1 mt_mutExtend PySem.F.slot_list_extend PySem.F.type_list_extend PySem.F.plainAttrs_list (okE r g h4) h2 ha hs h3
      | [], .cons _ _, _, h5, _, _ => simp [chkA] at h5
      | _ :: _ :: _, _, h6, _, _, _ => simp at h6
    · cases h
  | .lam f j q body, e, S, G, X, Wx, g, h => by
    unfold chkE at h
    split at h
    · rename_i x p1 b scope lpos pos
      simp only [Bool.and_eq_true, decide_eq_true_eq, Bool.not_eq_true'] at h
      obtain ⟨⟨⟨⟨⟨h1, h2⟩, h3⟩, h4⟩, h5⟩, h6⟩ := h
      obtain ⟨hg, hd⟩ := glB_ok g h2
      have c := g.cold h1
      obtain ⟨hr, hq, ⟨cc, TB, hcode⟩, L⟩ := g.lam j q h3
      by_cases z : d = 0
      · refine ee_bad fun τ o => ?_
        unfold evE
        simp only [z, run]
        split
        · split <;> rfl
        · rfl
      · have e : d = d - 1 + 1 := by omega
        obtain ⟨a, gg, pr, bg, sg, dV, kV, doc, pm, cdv, ct, oc, an, od, osl, Ng, fn, hm, hk, lk, hcg, hb, Sg, hNg, hva, hf, hnt, hns, hnp, hn1, hda, hca, TT⟩ := L x f h4 (d - 1) e
        have key := ee_lam (G := G) (X := X) (Wx := Wx) (T := T) (wf := wf) (d := d - 1) (fid := f) (j := j) (k := 4 * d) (kb := 4 * (d - 1) + 2) (va := evE ⟨T, run T wf d, wf, t, cur⟩ body) (p := p1) (lpos := lpos) (pos := pos) (body := b) (scope := scope) (params := ⟨[], [], none, [], [], none, []⟩)
          c.1 hg hm hk lk hcg hb Sg hNg hva hf hnt hns hnp hn1 TT TB hcode hr (by omega) (by rw [g.sc]; exact lamS_by h5) rfl (fun _ _ _ _ _ => rfl) g.tk
          (fun A outer s H E f c' hr' => (okE body (g.lamB h1 (g.noer h1) scope A outer s H E f c' hr') h6).pe) hd hda hca
        rw [hq, ← e] at key
        exact key
    · cases h
  | .thk, e, S, G, X, Wx, g, h => by unfold chkE at h; cases h
  | .exis i c, e, S, G, X, Wx, g, h => by
    unfold chkE at h
    split at h
    · rename_i n p1 y p2 z p3 pos
      simp only [Bool.and_eq_true, decide_eq_true_eq] at h
      obtain ⟨⟨⟨⟨⟨⟨h1, h2⟩, rfl⟩, h4⟩, h5⟩, h6⟩, h7⟩ := h
      obtain ⟨hg, hd, hm, hn⟩ := frB_ok g h2
      obtain ⟨hv, hd2, hcd⟩ := visB_ok g h5
      obtain ⟨hg3, hd3⟩ := glB_ok g h6
      have hK := g.hK
      have hN := g.N
      obtain ⟨G0, X0, a, oe, cls, dd, pn, xx, rfl, rfl, rfl, hz, hf, rfl, P⟩ := g.er i h1
      obtain ⟨v, u, hcl, hmu, hex, hkit⟩ := P.exc z c h7
      have hc : PE (X0.suite a ((a, oe) :: pn)) (.Name z p3) (tC v) := by
        rcases hmu with q | ⟨q1, q2, q3⟩
        · exact pe_glob hg3 q (by cases hcl <;> rfl) hd3
        · exact pe_bltn hg3 q1 q2 (by cases hcl <;> rfl) q3 hd3
      exact ee_exis (cx := ⟨T, run T wf d, wf, t, some xx⟩) (X := X0) (G := G0) hK P.eg hkit hz hf (fun w r => hcl.eq r) (hN ▸ h4) hv hd2 hcd hg hm hc rfl
    · cases h
  | .exat i f, e, S, G, X, Wx, g, h => by
    unfold chkE at h
    split at h
    · rename_i y p1 n pos
      simp only [Bool.and_eq_true, decide_eq_true_eq] at h
      obtain ⟨⟨⟨h1, h2⟩, h3⟩, h4⟩ := h
      obtain ⟨hv, hd2, hcd⟩ := visB_ok g h4
      have hK := g.hK
      have hN := g.N
      obtain ⟨G0, X0, a, oe, cls, dd, pn, xx, rfl, rfl, rfl, hz, hf, rfl, P⟩ := g.er i h1
      exact ee_exat (X := X0) (G := G0) hK P.C.nd P.eg (by rw [P.nm]; exact h2) hz hf (hN ▸ h3) hv hd2 hcd
    · cases h
theorem okA : ∀ (as : A) {es : List Expr} {S : Sx} {G : Gx} {X : L2.Cx} {Wx : WX}, Gd S T wf d cur G X Wx → chkA S as es = true → PA X es (tA G Wx (evA ⟨T, run T wf d, wf, t, cur⟩ as)) ∧ es.all (fun e => !isStar e) = true
  | .nil, es, S, G, X, Wx, g, h => by
    unfold chkA at h
    split at h
    · exact ⟨pa_nilD, rfl⟩
    · rename_i h1; cases h1
    · cases h
  | .cons e r, es, S, G, X, Wx, g, h => by
    unfold chkA at h
    split at h
    · rename_i h1; cases h1
    · rename_i h1
      cases h1
      obtain ⟨h1, h3⟩ := band h
      obtain ⟨h1, h2⟩ := band h1
      obtain ⟨h4, h5⟩ := okA r g h3
      exact ⟨pa_consD (okE e g h2) (bnot h1) h4, by rw [List.all_cons, h1, h5]; rfl⟩
    · cases h
theorem okI : ∀ (it : I) {tg x : Expr} {S : Sx} {G : Gx} {X : L2.Cx} {Wx : WX}, Gd S T wf d cur G X Wx → S.hot = false → chkI S it tg x = true → PI X tg x (tI G Wx (evI ⟨T, run T wf d, wf, t, cur⟩ it))
  | .of e, tg, x, S, G, X, Wx, g, hc, h => by
    unfold chkI at h
    exact pi_of g.hK (okE e g h)
  | .range as, tg, x, S, G, X, Wx, g, hc, h => by
    unfold chkI at h
    split at h
    · rename_i n p1 es pos
      simp only [Bool.and_eq_true, Bool.or_eq_true, decide_eq_true_eq] at h
      obtain ⟨⟨⟨h2, rfl⟩, h6⟩, h7⟩ := h
      obtain ⟨hg, hd, hm, hn⟩ := frB_ok g h2
      rcases h6 with h6 | h6
      · obtain ⟨x, rfl⟩ := len1 h6
        match as, h7 with
        | .cons ea .nil, h7 =>
          unfold chkA at h7
          obtain ⟨h7, _⟩ := band h7
          obtain ⟨h8, h9⟩ := band h7
          exact pi_rng1 hg hm (okE ea g h9) (bnot h8)
        | .nil, h7 => cases h7
        | .cons _ (.cons _ _), h7 => simp [chkA] at h7
      · obtain ⟨x, y, rfl⟩ := len2 h6
        match as, h7 with
        | .cons ea (.cons eb .nil), h7 =>
          unfold chkA at h7
          obtain ⟨h7, h10⟩ := band h7
          obtain ⟨h8, h9⟩ := band h7
          unfold chkA at h10
          obtain ⟨h10, _⟩ := band h10
          obtain ⟨h11, h12⟩ := band h10
          exact pi_rng2 hg hm (okE ea g h9) (bnot h8) (okE eb g h12) (bnot h11)
        | .nil, h7 => cases h7
        | .cons _ .nil, h7 => simp [chkA] at h7
        | .cons _ (.cons _ (.cons _ _)), h7 => simp [chkA] at h7
    · cases h
  | .enum e, tg, x, S, G, X, Wx, g, hc, h => by
    unfold chkI at h
    split at h
    · simp only [Bool.and_eq_true, decide_eq_true_eq, Bool.not_eq_true'] at h
      obtain ⟨⟨⟨h2, rfl⟩, h3⟩, h4⟩ := h
      obtain ⟨hg, hd, hm, hn⟩ := frB_ok g h2
      exact pi_enumE g.hK hg hm (okE e g h4) h3
    · cases h
  | .zip a b, tg, x, S, G, X, Wx, g, hc, h => by
    unfold chkI at h
    split at h
    · simp only [Bool.and_eq_true, decide_eq_true_eq, Bool.not_eq_true'] at h
      obtain ⟨⟨⟨⟨⟨h2, rfl⟩, h3⟩, h4⟩, h5⟩, h6⟩ := h
      obtain ⟨hg, hd, hm, hn⟩ := frB_ok g h2
      exact pi_zipE g.hK hg hm (okE a g h5) h3 (okE b g h6) h4
    · cases h
  | .rev _, tg, x, S, G, X, Wx, g, hc, h => by unfold chkI at h; cases h
  | .items _, tg, x, S, G, X, Wx, g, hc, h => by unfold chkI at h; cases h
end
end
end Mi
end
section
set_option linter.all false
set_option Elab.async false
set_option maxHeartbeats 4000000
set_option autoImplicit false
namespace Mi
open PySem PySem.Spec PyProof.Rows L2 LamX
/-! ### statements: the look -/
def isStarE : Expr → Bool
  | .Starred _ _ => true
  | _ => false
/-- how a, b = x, y stores: some names: from the right; none: by way of the tuple -/
def swN (sc : Scope) (ts : List Expr) : List Str := ts.filterMap fun
      | .Name id pos => if sc.names.lookup id == some .local && pos.line == (ts.head?.map (·.pos.line)).getD 0 then some id else none
      | _ => none
def swD (sc : Scope) (ts vs : List Expr) : Option (Option (List Str)) :=
  if (!(ts.length == 2 || ts.length == 3) || vs.length != ts.length || (if sc.kind.isAnnotationScope then ScopeKind.function else sc.kind) != .function) = true then some none
  else if (vs.any isStarE) = true then some none
  else if ((swN sc ts).length != ts.length || (swN sc ts).eraseDups.length != (swN sc ts).length) = true then some none
  else if vs.all (foldedForSure 8) = true then some none
  else if vs.all (constantsAlone 8) = true then none
  else some (some (swN sc ts))
def augB : Operator → Bool
  | .Add => true
  | .Sub => true
  | _ => false
/-- a plain store of a name -/
def swB (S : Sx) (x : Str) (v : Expr) : Bool := !isComp v || !(kd S x == some .local)
/-- a comprehension stored on its line -/
def swC (S : Sx) (x : Str) (px : Pos) (v : Expr) : Bool := match v with
  | .ListComp _ _ scope pos => (px.line == pos.line) && !(scope.names.any fun (n, k) => n == x && (k == .local || k == .cell)) && decide (kd S x = some .local) && decide (S.sc.kind = .function)
  | _ => false
def isCompI : E → Bool
  | .comp _ _ _ _ _ => true
  | .alloc (.comp _ _ _ _ _) => true
  | _ => false
def erB (S : Sx) (i : Nat) : Bool := match S.er with
  | some j => !decide (j = i)
  | none => true
def chkSubs (S : Sx) : A → A → List Expr → Bool
  | .nil, .nil, [] => true
  | .cons a ra, .cons i ri, .Subscript x y _ :: ts => !isSlice y && chkE S a x && chkE S i y && chkSubs S ra ri ts
  | _, _, _ => false
def Sx.suite (S : Sx) (er : Option Nat) : Sx := { S with hot := true, er := er, lam := none }
mutual
def chkS (S : Sx) : Mi.S → Stmt → Bool
  | .set i e, st => match st with
    | .Assign [.Name x px] v pos => decide (S.N[i]? = some x) && locB S x && erB S i && chkE S e v && (swB S x v || (!S.hot && isCompI e && swC S x px v))
    | _ => false
  | .unp t e, st => match st with
    | .Assign [tg] v _ => !S.hot && chkT S t tg && isTupE tg && !isTupE v && !isComp v && chkE S e v
    | _ => false
  | .par t as, st => match st with
    | .Assign [.Tuple ts _ _] (.Tuple es _ _) _ => !S.hot && chkA S as es && (match swD S.sc ts es with
      | some (some ns) => (match t, ts with
        | .cons (.n i) (.cons (.n j) .nil), [.Name x _, .Name y _] => decide (ns = [x, y]) && decide (S.N[i]? = some x) && decide (S.N[j]? = some y) && !decide (i = j) && decide (kd S x = some .local) && decide (kd S y = some .local)
        | .cons (.n i) (.cons (.n j) (.cons (.n l) .nil)), [.Name x _, .Name y _, .Name z _] => decide (ns = [x, y, z]) && decide (S.N[i]? = some x) && decide (S.N[j]? = some y) && decide (S.N[l]? = some z) && !decide (i = j) && !decide (i = l) && !decide (j = l) && decide (kd S x = some .local) && decide (kd S y = some .local) && decide (kd S z = some .local)
        | _, _ => false)
      | some none => ts.all (fun e => !isStar e) && decide (tsLen t = ts.length) && decide (tsLen t ≤ 100) && chkTs S t ts
      | none => false)
    | _ => false
  | .parS os is as, st => match st with
    | .Assign [.Tuple ts _ _] (.Tuple es _ _) _ => !S.hot && ts.all isSubE && decide (es.length = ts.length) && decide (ts.length ≤ 100) && chkSubs S os is ts && chkA S as es
    | _ => false
  | .seti a i e, st => match st with
    | .Assign [.Subscript x y _] v _ => !isSlice y && chkE S a x && chkE S i y && chkE S e v
    | _ => false
  | .seta a f e, st => match st with
    | .Assign [.Attribute x n _] v _ => decide (S.pg.names[f]? = some n) && !isComp v && chkE S a x && chkE S e v
    | _ => false
  | .aug i op e, st => match st with
    | .AugAssign (.Name x _) op' v _ => decide (op = op') && augB op && decide (S.N[i]? = some x) && locB S x && erB S i && chkE S e v
    | _ => false
  | .augi a i op e, st => match st with
    | .AugAssign (.Subscript x y _) op' v _ => decide (op = op') && augB op && !isSlice y && chkE S a x && chkE S i y && chkE S e v
    | _ => false
  | .auga _ _ _ _, _ => false
  | .ex e, st => match st with
    | .Expr v _ => !isComp v && chkE S e v
    | _ => false
  | .ret e, st => match st with
    | .Return (some v) _ => chkE S e v
    | _ => false
  | .retN, st => match st with
    | .Return none _ => true
    | _ => false
  | .ite c a b, st => match st with
    | .If x bs cs _ => !isIfExp x && chkE S c x && chkB S a bs && chkB S b cs
    | _ => false
  | .for t it _ b, st => match st with
    | .For tg x bs [] _ => !S.hot && !isSetE x && chkI S it tg x && chkT S t tg && chkB S b bs
    | _ => false
  | .while c _ b, st => match st with
    | .While x bs [] _ => !S.hot && !isIfExp x && chkE S c x && chkB S b bs
    | _ => false
  | .raise c as, st => match st with
    | .Raise (some (.Call (.Name x _) es [] _)) none _ => !S.hot && glB S x && chkA S as es && (match S.pg.ers.lookup x, es with
      | some (c', none), [] => decide (c' = c)
      | some (c', some _), [_] => decide (c' = c)
      | _, _ => false)
    | _ => false
  | .try b c slot h, st => match st with
    | .Try bs [.ExceptHandler (some (.Name x _)) n (s0 :: ss) _] [] [] _ => !S.hot && glB S x && decide (S.pg.exc.lookup x = some c) && (match slot, n with
      | some i, some y => decide (S.N[i]? = some y) && decide (kd S y = some .local)
      | none, none => true
      | _, _ => false) && chkB { S with lam := none } b bs && chkB (S.suite slot) h (s0 :: ss)
    | _ => false
  | .pass, st => match st with
    | .Pass _ => true
    | _ => false
  | .brk, st => match st with
    | .Break _ => true
    | _ => false
  | .cont, st => match st with
    | .Continue _ => true
    | _ => false
def chkB (S : Sx) : B → List Stmt → Bool
  | .nil, [] => true
  | .cons s r, st :: sts => chkS S s st && chkB S r sts
  | _, _ => false
end
theorem swD_ok {X : L2.Cx} {sc : Scope} (hs : X.env.scope = sc) {ts es : List Expr} {r : Option (List Str)} {kt k2 : Nat} {pt pt2 : Pos} (h : swD sc ts es = some r) : swappedStores [.Tuple ts kt pt] (.Tuple es k2 pt2) X.env = pure r := by
  subst hs
  unfold swD at h
  unfold swappedStores
  simp only
  by_cases h1 : (!(ts.length == 2 || ts.length == 3) || es.length != ts.length || (if X.env.scope.kind.isAnnotationScope then ScopeKind.function else X.env.scope.kind) != .function) = true
  · rw [if_pos h1] at h
    cases h
    exact if_pos h1
  · rw [if_neg h1] at h
    refine (if_neg h1).trans ?_
    by_cases h2 : (es.any isStarE) = true
    · rw [if_pos h2] at h
      cases h
      exact if_pos h2
    · rw [if_neg h2] at h
      refine (if_neg h2).trans ?_
      by_cases h3 : ((swN X.env.scope ts).length != ts.length || (swN X.env.scope ts).eraseDups.length != (swN X.env.scope ts).length) = true
      · rw [if_pos h3] at h
        cases h
        exact if_pos h3
      · rw [if_neg h3] at h
        refine (if_neg h3).trans ?_
        by_cases h4 : es.all (foldedForSure 8) = true
        · rw [if_pos h4] at h
          cases h
          exact if_pos h4
        · rw [if_neg h4] at h
          refine (if_neg h4).trans ?_
          by_cases h5 : es.all (constantsAlone 8) = true
          · rw [if_pos h5] at h; cases h
          · rw [if_neg h5] at h
            cases h
            exact if_neg h5
end Mi
end
section
set_option linter.all false
set_option Elab.async false
set_option maxHeartbeats 4000000
set_option autoImplicit false
namespace Mi
open PySem PySem.Spec PyProof.Rows L2 LamX
/-- where a statement stands -/
structure GdS (S : Sx) (T : Tab) (wf d : Nat) (cur : Option Ex) (G : Gx) (X : L2.Cx) (Wx : WX) : Prop where
  g : Gd S T wf d cur G X Wx
  fr : S.hot = false → PassesOwn (model X.prog X.w) X.A X.env X.xe ∧ X.stack = X.env :: X.outer ∧ X.env.frame = some X.env.locals
section
variable {T : Tab} {wf d : Nat} {cur : Option Ex} {S : Sx} {G : Gx} {X : L2.Cx} {Wx : WX} {t : Option Thk}
theorem Gd.tr (g : Gd S T wf d cur G X Wx) (hc : S.hot = false) (he : S.er = none) (pn : List (Addr × Obj)) (xe : Value → Shared → Prop) (W : WX) (tk : Takes (X.tr pn xe) W) : Gd { S with lam := none } T wf d cur G (X.tr pn xe) W where
  nm := g.nm
  C := g.C
  fr := g.fr
  ks := g.ks
  hK := g.hK
  N := g.N
  nd := g.nd
  sc := g.sc
  hu := g.hu
  gd := g.gd
  fn := g.fn
  tk := tk
  cold := g.cold
  er := fun i h => by
    have h : S.er = some i := h
    rw [he] at h; cases h
  ers := g.ers
  lam := fun j q h => by cases h
theorem Gd.suiteS (g : Gd S T wf d cur G X Wx) (hc : S.hot = false) (i : Nat) (a : Addr) (oe : Obj) (cls : Value) (dd : Option Addr) (pn : List (Addr × Obj)) (x : Ex) (hz : Zc cls dd oe) (hf : ∃ vs, oe.data = .fields vs) :
    Gd (S.suite (some i)) T wf d (some x) (gE G ⟨i, a, x, cls, dd⟩) (X.suite a ((a, oe) :: pn)) W0 where
  nm := g.nm
  C := ⟨g.C.cls, g.C.noat, g.C.nd, g.C.ty, g.C.kt, g.C.ko, g.C.kk⟩
  fr := g.fr
  ks := g.ks
  hK := g.hK
  N := g.N
  nd := g.nd
  sc := g.sc
  hu := g.hu
  gd := g.gd
  fn := g.fn
  tk := takesF
  cold := fun h => by cases h
  er := fun j h => by
    cases h
    exact ⟨G, X, a, oe, cls, dd, pn, x, rfl, rfl, rfl, hz, hf, rfl, (g.cold hc).2.2.2⟩
  ers := fun e h => by cases h; rfl
  lam := fun j q h => by cases h
theorem Gd.suiteN (g : Gd S T wf d cur G X Wx) (hc : S.hot = false) (a : Addr) (oe : Obj) (pn : List (Addr × Obj)) : Gd (S.suite none) T wf d none G (X.suite a ((a, oe) :: pn)) W0 where
  nm := g.nm
  C := g.C
  fr := g.fr
  ks := g.ks
  hK := g.hK
  N := g.N
  nd := g.nd
  sc := g.sc
  hu := g.hu
  gd := g.gd
  fn := g.fn
  tk := takesF
  cold := fun h => by cases h
  er := fun j h => by cases h
  ers := fun e h => by
    have := (g.cold hc).1
    rw [this] at h; cases h
  lam := fun j q h => by cases h
theorem erB_ok (g : Gd S T wf d cur G X Wx) {i : Nat} (h : erB S i = true) : ∀ e, G.er = some e → e.slot ≠ i := fun e he z => by
  have := g.ers e he
  unfold erB at h
  rw [this, z] at h
  simp at h
theorem aug_ok {op : Operator} (h : augB op = true) : ∃ f, AugOk X op f := by
  cases op <;> first | (cases h; done) | exact ⟨_, aug_add⟩ | exact ⟨_, aug_sub⟩
theorem augStore_no {ie : Expr} (h : isSlice ie = false) : ∀ ov iv new, augStore ie ov iv new = (do holding [new, ov, iv] (setItem ov iv new); release [new, ov, iv] []; pure .next) := fun ov iv new => by
  cases ie <;> first | rfl | (simp [isSlice] at h)
theorem evA_len {cx : Cx} : ∀ {as : A} {es : List Expr} {S : Sx}, chkA S as es = true → ∀ {τ : Sg} {o : List Ob} {ws : List W} {o' : List Ob}, evA cx as τ o = .ok ws o' → ws.length = es.length
  | .nil, [], _, _, τ, o, ws, o', e => by
    simp only [evA] at e; cases e; rfl
  | .nil, _ :: _, _, h, _, _, _, _, _ => by simp [chkA] at h
  | .cons _ _, [], _, h, _, _, _, _, _ => by simp [chkA] at h
  | .cons a r, x :: xs, S, h, τ, o, ws, o', e => by
    unfold chkA at h
    simp only [Bool.and_eq_true] at h
    simp only [evA] at e
    cases z : asW (evE cx a τ o) with
    | bad => rw [z] at e; cases e
    | exc _ _ => rw [z] at e; cases e
    | ok w o1 =>
      rw [z] at e
      simp only [bnd] at e
      cases z2 : evA cx r τ o1 with
      | bad => rw [z2] at e; cases e
      | exc _ _ => rw [z2] at e; cases e
      | ok us o2 =>
        rw [z2] at e
        cases e
        simp [evA_len h.2 z2]
variable {cx : Cx}
theorem subs_ok (g : Gd S T wf d cur G X Wx) : ∀ {os is : A} {ts : List Expr}, chkSubs S os is ts = true → PGs X ts (gI G Wx (evPs ⟨T, run T wf d, wf, t, cur⟩ os is)) ∧ (evPs ⟨T, run T wf d, wf, t, cur⟩ os is).length = ts.length
  | .nil, .nil, [], _ => ⟨pgs_I0, rfl⟩
  | .cons a ra, .cons i ri, .Subscript x y p :: ts, h => by
    unfold chkSubs at h
    simp only [Bool.and_eq_true, Bool.not_eq_true'] at h
    obtain ⟨⟨⟨h1, h2⟩, h3⟩, h4⟩ := h
    obtain ⟨h5, h6⟩ := subs_ok g h4
    exact ⟨pgs_I1 h1 (okE a g h2) (okE i g h3) h5, by show _ + 1 = _ + 1; rw [h6]⟩
  | .nil, .cons _ _, _, h => by simp [chkSubs] at h
  | .cons _ _, .nil, _, h => by simp [chkSubs] at h
  | .nil, .nil, _ :: _, h => by simp [chkSubs] at h
  | .cons _ _, .cons _ _, [], h => by simp [chkSubs] at h
/-- the pieces of a comprehension -/
theorem comp_parts (g : Gd S T wf d cur G X Wx) {own : List Nat} {tt : Mi.T} {it : I} {test elt : E} {el : Expr} {gs : List Comprehension} {scope : Scope} {pos : Pos} (h : chkE S (.comp own tt it test elt) (.ListComp el gs scope pos) = true) {i : Nat} {y : Str} {py spos : Pos}
    (hc : S.hot = false) (hy : S.N[i]? = some y) (hyl : kd S y = some .local) (hk : S.sc.kind = .function) (hl : (py.line == pos.line) = true) (ha : (scope.names.any fun (n, k) => n == y && (k == .local || k == .cell)) = false) :
    PS X (.Assign [.Name y py] (.ListComp el gs scope pos) spos) (tS G Wx fun τ o => bndS (asW (evE ⟨T, run T wf d, wf, t, cur⟩ (.comp own tt it test elt) τ o)) τ fun w o1 => .next (τ.set i (some w)) o1) ∧
    PS X (.Assign [.Name y py] (.ListComp el gs scope pos) spos) (tS G Wx fun τ o => bndS (asW (evE ⟨T, run T wf d, wf, t, cur⟩ (.alloc (.comp own tt it test elt)) τ o)) τ fun w o1 => .next (τ.set i (some w)) o1) := by
  unfold chkE at h
  split at h
  · rename_i el' tg iter ifs k scope' pos' heq
    cases heq
    simp only [Bool.and_eq_true, decide_eq_true_eq, Bool.not_eq_true'] at h
    obtain ⟨⟨⟨⟨⟨⟨⟨⟨h1, rfl⟩, h3⟩, h4⟩, h5⟩, h6⟩, h7⟩, h8⟩, h9⟩ := h
    have he := g.noer h1
    have c := g.cold h1
    have hifs : ∀ (s : Shared) (H : Hp) (C : Addr) (cl : List (Str × Addr)) (fp : List Addr), PTs (X.blk s H scope (compEnvC scope cl C X.env) fp) ifs (tTX G fun σ o => asT (evE ⟨T, run T wf d, wf, t, cur⟩ test σ o)) := fun s H C cl fp => by
      match ifs, h9 with
      | [], h9 =>
        simp only at h9
        split at h9
        · exact pts_0
        · cases h9
      | [y], h9 =>
        obtain ⟨h10, h11⟩ := band h9
        exact pts_1 (pt_X fun D => (okE test (g.blk h1 he scope s H C cl fp D) h11).pt (bnot h10))
      | _ :: _ :: _, h9 => cases h9
    have key := ps_setCompE (G := G) (X := X) (Wx := Wx) (wf := wf) (t := tt) (ri := evI ⟨T, run T wf d, wf, t, cur⟩ it) (rt := fun σ o => asT (evE ⟨T, run T wf d, wf, t, cur⟩ test σ o)) (re := fun σ o => asW (evE ⟨T, run T wf d, wf, t, cur⟩ elt σ o)) (own := ownP S.N own) (ifs := ifs) (scope := scope) (pos := pos) (elt := el) (tg := tg) (iter := iter) (i := i) (y := y) (py := py) (spos := spos)
      c.1 c.2.1 (g.N ▸ g.nd) (g.N ▸ hy) (by rw [g.sc]; exact hyl) (sw_true (by rw [g.sc]; exact hk) (by rw [g.sc]; exact hyl) hl ha) (okI it g h1 h6) (by rw [g.N, g.sc]; exact blkB_ok h3)
      (fun s H C cl fp => pg_X fun D => chkT_ok (G := gD G D) (X := X.blk s H scope (compEnvC scope cl C X.env) fp) c.1 c.2.1 (g.blk h1 he scope s H C cl fp D) tt h7)
      hifs
      (fun s H C cl fp => pe_X fun D => (okE elt (g.blk h1 he scope s H C cl fp D) h8).w)
      (fun x => noSet h4 x) (by rw [ownP_snd]; exact ownSub_ok h5)
    rw [ownP_snd] at key
    exact key
  · cases h
/-- a store of a name -/
theorem ps_setW {e : Expr} {va : Sg → List Ob → R Val} {i : Nat} {x : Str} {pos' pos : Pos} (he' : ∀ e, G.er = some e → e.slot ≠ i) (hN : X.N.Nodup) (hi : X.N[i]? = some x) (hx : L2.Loc X.env.scope x) (hf : X.fn x = true ∨ X.env.scope.names.lookup x = some .local) (hc : swapsWith e (some (.Name x pos')) pos.line X.env = pure false) (he : EE G X Wx e va) :
    PS X (.Assign [.Name x pos'] e pos) (tS G Wx fun τ o => bndS (asW (va τ o)) τ fun w o1 => .next (τ.set i (some w)) o1) :=
  pg_W (x := x) he' (ps_set hN hi hx he.w hc hf) fun _ _ _ q => q
theorem swB_ok (g : Gd S T wf d cur G X Wx) {x : Str} {v : Expr} {p : Pos} {n : Nat} (h : swB S x v = true) : swapsWith v (some (.Name x p)) n X.env = pure false := by
  unfold swB at h
  rcases Bool.or_eq_true_iff.mp h with h | h
  · exact swaps_no (bnot h)
  · refine swaps_nl ?_
    unfold Env.kindOf
    rw [g.sc]
    exact bnot h
theorem ps_setiF {oe ie e : Expr} {va vb vc : Sg → List Ob → R Val} {tp pos : Pos} (hs : isSlice ie = false) (ho : EE G X Wx oe va) (hi : EE G X Wx ie vb) (he : EE G X Wx e vc) :
    PS X (.Assign [.Subscript oe ie tp] e pos) (tS G Wx fun τ o => bndS (asW (vc τ o)) τ fun w o1 => bndS (asW (va τ o1)) τ fun x o2 => bndS (asW (vb τ o2)) τ fun y o3 => match y with
    | .d k => oS τ (setiW o3 x k w)
    | .loc _ => .bad) :=
  PS.weak (ps_asg he.w (pg_sub ho.w hi.w (set_W (G := G)) (subAssign hs)) (sole_tg rfl) (by rfl) (by rfl)) fun D σ H q =>
    (tS_WWW (f := fun τ w x y o3 => match y with
    | .d k => oS τ (setiW o3 x k w)
    | .loc _ => .bad) q).mono fun v H1 h1 => h1.mono fun u H2 h2 => h2.mono fun t H3 ⟨ρ, o, τ, w, x, y, at_, rw', rx, ry, q⟩ => by
      cases y with
      | loc _ => exact False.elim q
      | d k =>
        obtain ⟨o', eo, q⟩ := SP_oS q
        refine ⟨ρ, o, x, k, w, o', at_.ob, rx, ry, rw', eo, fun H' hp => q _ _ ?_⟩
        obtain ⟨ρ1, p, s, b1⟩ := hp
        exact ⟨ρ1, p, s, b1, at_.sl.step p s at_.ob.zm⟩
end
end Mi
end
section
set_option linter.all false
set_option Elab.async false
set_option maxHeartbeats 4000000
set_option autoImplicit false
namespace Mi
open PySem PySem.Spec PyProof.Rows L2 LamX
section
variable {T : Tab} {wf d : Nat} {t : Option Thk}
theorem sizeI {n : Nat} (h : n ≤ 100) : n ≤ line := Nat.le_trans h (by decide)
theorem swD_len {sc : Scope} {ts es : List Expr} {ns : List Str} (h : swD sc ts es = some (some ns)) : es.length = ts.length := by
  unfold swD at h
  by_cases h1 : (!(ts.length == 2 || ts.length == 3) || es.length != ts.length || (if sc.kind.isAnnotationScope then ScopeKind.function else sc.kind) != .function) = true
  · rw [if_pos h1] at h
    cases h
  · by_cases e : es.length = ts.length
    · exact e
    · exfalso
      apply h1
      have : (es.length != ts.length) = true := by simpa using e
      rw [this]
      simp
theorem tup_star {e : Expr} (h : isTupE e = true) : isStar e = false := by cases e <;> first | rfl | (simp [isTupE] at h)
theorem hot_er {S : Sx} {G : Gx} {X : L2.Cx} {Wx : WX} {cur : Option Ex} (g : Gd S T wf d cur G X Wx) (h : S.hot = false) : G.er = none := (g.cold h).1
theorem try_eq {cx : Cx} {b h : B} {c : Nat} {slot : Option Nat} : evS cx (.try b c slot h) = tryR cx c slot (evB cx b) (fun x => match slot with | some _ => evB { cx with cur := some x } h | none => evB { cx with cur := none } h) := by
  funext σ o
  cases slot with
  | none => simp only [evS, tryR] <;> cases evB cx b σ o <;> rfl
  | some i => simp only [evS, tryR] <;> cases evB cx b σ o <;> rfl
mutual
theorem okS : ∀ (ir : Mi.S) {st : Stmt} {S : Sx} {cur : Option Ex} {G : Gx} {X : L2.Cx} {Wx : WX}, GdS S T wf d cur G X Wx → chkS S ir st = true → PS X st (tS G Wx (evS ⟨T, run T wf d, wf, t, cur⟩ ir))
  | .set i e, st, S, cur, G, X, Wx, gs, h => by
    have g := gs.g
    unfold chkS at h
    split at h
    · rename_i x px v pos
      simp only [Bool.and_eq_true, Bool.or_eq_true, decide_eq_true_eq, Bool.not_eq_true'] at h
      obtain ⟨⟨⟨⟨h1, h2⟩, h3⟩, h4⟩, h5⟩ := h
      obtain ⟨h6, h7⟩ := locB_ok g h2
      rcases h5 with h5 | ⟨⟨h8, h9⟩, h10⟩
      · exact ps_setW (erB_ok g h3) (g.N ▸ g.nd) (g.N ▸ h1) h6 h7 (swB_ok g h5) (okE e g h4)
      · unfold swC at h10
        split at h10
        · simp only [Bool.and_eq_true, decide_eq_true_eq, Bool.not_eq_true'] at h10
          obtain ⟨⟨⟨h11, h12⟩, h13⟩, h14⟩ := h10
          unfold isCompI at h9
          split at h9
          · exact (comp_parts g h4 h8 h1 h13 h14 h11 h12).1
          · unfold chkE at h4
            obtain ⟨_, h4⟩ := band h4
            exact (comp_parts g h4 h8 h1 h13 h14 h11 h12).2
          · cases h9
        · cases h10
    · cases h
  | .unp tt e, st, S, cur, G, X, Wx, gs, h => by
    have g := gs.g
    unfold chkS at h
    split at h
    · simp only [Bool.and_eq_true, Bool.not_eq_true'] at h
      obtain ⟨⟨⟨⟨⟨h1, h2⟩, h3⟩, h4⟩, h5⟩, h6⟩ := h
      have c := g.cold h1
      exact ps_unpE (chkT_ok c.1 c.2.1 g tt h2) h5 h4 (tup_star h3) (okE e g h6)
    · cases h
  | .par tt as, st, S, cur, G, X, Wx, gs, h => by
    have g := gs.g
    unfold chkS at h
    split at h
    · rename_i ts kt pt es k2 pt2 pos
      simp only [Bool.and_eq_true, Bool.not_eq_true'] at h
      obtain ⟨⟨h1, h2⟩, h3⟩ := h
      have c := g.cold h1
      obtain ⟨ha, hs⟩ := okA (t := t) as g h2
      have hN : X.N.Nodup := g.N ▸ g.nd
      split at h3
      · rename_i ns hsw
        have hw := fun kt k2 pt pt2 => swD_ok (kt := kt) (k2 := k2) (pt := pt) (pt2 := pt2) g.sc hsw
        split at h3
        · rename_i i j x px y py
          simp only [Bool.and_eq_true, decide_eq_true_eq, Bool.not_eq_true', decide_eq_false_iff_not] at h3
          obtain ⟨⟨⟨⟨⟨rfl, h4⟩, h5⟩, h6⟩, h7⟩, h8⟩ := h3
          have hl : es.length = 2 := swD_len hsw
          obtain ⟨a, b, rfl⟩ := len2 hl
          exact ps_parE c.1 c.2.1 hN (g.N ▸ h4) (g.N ▸ h5) h6 (by rw [g.sc]; exact h7) (by rw [g.sc]; exact h8) ha (hw _ _ _ _)
        · rename_i i j l x px y py z pz
          simp only [Bool.and_eq_true, decide_eq_true_eq, Bool.not_eq_true', decide_eq_false_iff_not] at h3
          obtain ⟨⟨⟨⟨⟨⟨⟨⟨⟨rfl, h4⟩, h5⟩, h6⟩, h7⟩, h8⟩, h9⟩, h10⟩, h11⟩, h12⟩ := h3
          have hl : es.length = 3 := swD_len hsw
          match es, hl, ha with
          | [a, b, cc], _, ha => exact ps_par3E c.1 c.2.1 hN (g.N ▸ h4) (g.N ▸ h5) (g.N ▸ h6) h7 h8 h9 (by rw [g.sc]; exact h10) (by rw [g.sc]; exact h11) (by rw [g.sc]; exact h12) ha (hw _ _ _ _)
        · cases h3
      · rename_i hsw
        simp only [Bool.and_eq_true, decide_eq_true_eq] at h3
        obtain ⟨⟨⟨h4, h5⟩, h6⟩, h7⟩ := h3
        exact ps_parTE g.hK c.2.1 h4 h5 (chkTs_ok c.1 c.2.1 g tt h7) ha (sizeI h6) (swD_ok g.sc hsw)
      · cases h3
    · cases h
  | .parS os is as, st, S, cur, G, X, Wx, gs, h => by
    have g := gs.g
    unfold chkS at h
    split at h
    · simp only [Bool.and_eq_true, Bool.not_eq_true', decide_eq_true_eq] at h
      obtain ⟨⟨⟨⟨⟨h1, h2⟩, h3⟩, h4⟩, h5⟩, h6⟩ := h
      have c := g.cold h1
      obtain ⟨h7, h8⟩ := subs_ok (t := t) g h5
      exact ps_parSE g.hK c.2.1 h2 h8 h3 h7 (okA as g h6).1 (fun τ o ws o' e => evA_len h6 e) (sizeI h4)
    · cases h
  | .seti a i e, st, S, cur, G, X, Wx, gs, h => by
    have g := gs.g
    unfold chkS at h
    split at h
    · simp only [Bool.and_eq_true, Bool.not_eq_true'] at h
      obtain ⟨⟨⟨h1, h2⟩, h3⟩, h4⟩ := h
      exact ps_setiF h1 (okE a g h2) (okE i g h3) (okE e g h4)
    · cases h
  | .seta a f e, st, S, cur, G, X, Wx, gs, h => by
    have g := gs.g
    unfold chkS at h
    split at h
    · simp only [Bool.and_eq_true, Bool.not_eq_true', decide_eq_true_eq] at h
      obtain ⟨⟨⟨h1, h2⟩, h3⟩, h4⟩ := h
      exact ps_setaE g.hK g.C (by rw [g.nm]; exact h1) h2 (okE a g h3) (okE e g h4)
    · cases h
  | .aug i op e, st, S, cur, G, X, Wx, gs, h => by
    have g := gs.g
    unfold chkS at h
    split at h
    · simp only [Bool.and_eq_true, decide_eq_true_eq] at h
      obtain ⟨⟨⟨⟨⟨rfl, h2⟩, h3⟩, h4⟩, h5⟩, h6⟩ := h
      obtain ⟨h7, h8⟩ := locB_ok g h4
      obtain ⟨f, A⟩ := aug_ok (X := X) h2
      exact ps_augE (erB_ok g h5) (g.N ▸ g.nd) (g.N ▸ h3) h7 h8 (okE e g h6) A
    · cases h
  | .augi a i op e, st, S, cur, G, X, Wx, gs, h => by
    have g := gs.g
    unfold chkS at h
    split at h
    · simp only [Bool.and_eq_true, decide_eq_true_eq, Bool.not_eq_true'] at h
      obtain ⟨⟨⟨⟨⟨rfl, h2⟩, h3⟩, h4⟩, h5⟩, h6⟩ := h
      obtain ⟨f, A⟩ := aug_ok (X := X) h2
      have e2 : (fun τ o => bndS (asW (evE ⟨T, run T wf d, wf, t, cur⟩ a τ o)) τ fun x o1 => bndS (asW (evE ⟨T, run T wf d, wf, t, cur⟩ i τ o1)) τ fun y o2 => bndS (idxR x y o2) τ fun v o3 => augK op (evE ⟨T, run T wf d, wf, t, cur⟩ e) τ x y v o3) = evS ⟨T, run T wf d, wf, t, cur⟩ (.augi a i op e) := by
        funext τ o; exact augK_eq.symm
      rw [← e2]
      exact ps_augiE g.hK h3 (okE a g h4) (okE i g h5) (okE e g h6) A (augStore_no h3)
    · cases h
  | .auga _ _ _ _, st, S, cur, G, X, Wx, gs, h => by unfold chkS at h; cases h
  | .ex e, st, S, cur, G, X, Wx, gs, h => by
    have g := gs.g
    unfold chkS at h
    split at h
    · simp only [Bool.and_eq_true, Bool.not_eq_true'] at h
      exact ps_exE h.1 (okE e g h.2)
    · cases h
  | .ret e, st, S, cur, G, X, Wx, gs, h => by
    unfold chkS at h
    split at h
    · exact ps_retE (okE e gs.g h)
    · cases h
  | .retN, st, S, cur, G, X, Wx, gs, h => by
    unfold chkS at h
    split at h
    · exact ps_retNE
    · cases h
  | .ite c a b, st, S, cur, G, X, Wx, gs, h => by
    unfold chkS at h
    split at h
    · simp only [Bool.and_eq_true, Bool.not_eq_true'] at h
      obtain ⟨⟨⟨h1, h2⟩, h3⟩, h4⟩ := h
      exact ps_ifE h1 (okE c gs.g h2) (okB a gs h3) (okB b gs h4)
    · cases h
  | .for tt it kill b, st, S, cur, G, X, Wx, gs, h => by
    have g := gs.g
    unfold chkS at h
    split at h
    · simp only [Bool.and_eq_true, Bool.not_eq_true'] at h
      obtain ⟨⟨⟨⟨h1, h2⟩, h3⟩, h4⟩, h5⟩ := h
      have c := g.cold h1
      exact ps_forE (gs.fr h1).1 c.2.1 (okI it g h1 h3) (chkT_ok c.1 c.2.1 g tt h4) (okB b gs h5) (fun x => noSet h2 x)
    · cases h
  | .while c kill b, st, S, cur, G, X, Wx, gs, h => by
    have g := gs.g
    unfold chkS at h
    split at h
    · simp only [Bool.and_eq_true, Bool.not_eq_true'] at h
      obtain ⟨⟨⟨h1, h2⟩, h3⟩, h4⟩ := h
      exact ps_whileE (gs.fr h1).1 h2 (okE c g h3) (okB b gs h4)
    · cases h
  | .raise c as, st, S, cur, G, X, Wx, gs, h => by
    have g := gs.g
    unfold chkS at h
    split at h
    · simp only [Bool.and_eq_true, Bool.not_eq_true'] at h
      obtain ⟨⟨⟨h1, h2⟩, h3⟩, h4⟩ := h
      have cc := g.cold h1
      obtain ⟨hg, hd⟩ := glB_ok g h2
      obtain ⟨ha, hs⟩ := okA (t := t) as g h3
      split at h4
      · rename_i hl
        have h4 := of_decide_eq_true h4
        subst h4
        obtain ⟨C, cl, hm, hga, hcl, hex, _, ht⟩ := cc.2.2.2.er _ _ _ hl
        match as, h3 with
        | .nil, _ => exact ps_raise0 (cx := ⟨T, run T wf d, wf, t, cur⟩) cc.2.1 g.tk (ht rfl) cc.2.2.1.room hg hm hd hga hcl hex
        | .cons _ _, h3 => simp [chkA] at h3
      · rename_i kf _ hl
        have h4 := of_decide_eq_true h4
        subst h4
        obtain ⟨C, cl, hm, hga, hcl, hex, ht, _⟩ := cc.2.2.2.er _ _ _ hl
        obtain ⟨f, hf, ht⟩ := ht kf rfl
        exact ps_raise1 (cx := ⟨T, run T wf d, wf, t, cur⟩) cc.2.1 g.tk ht cc.2.2.1.room hg hm hd hga hcl hex (by rw [g.nm]; exact hf) ha (by simpa using hs)
      · cases h4
    · cases h
  | .try b c slot hh, st, S, cur, G, X, Wx, gs, h => by
    have g := gs.g
    unfold chkS at h
    split at h
    · rename_i bs x np n s0 ss p1 pos
      simp only [Bool.and_eq_true, Bool.not_eq_true', decide_eq_true_eq] at h
      obtain ⟨⟨⟨⟨⟨h1, h2⟩, h3⟩, h4⟩, h5⟩, h6⟩ := h
      have cc := g.cold h1
      obtain ⟨hg, hd⟩ := glB_ok g h2
      obtain ⟨v, u, hcl, hmu, hex, hkit⟩ := cc.2.2.2.exc x c h3
      have hc : Names X x u := ⟨hg, hd, hmu⟩
      obtain ⟨hp, hst, hfr⟩ := gs.fr h1
      have he := g.noer h1
      have hsub : SubOk G X.K ⟨T, run T wf d, wf, t, cur⟩ c u := hex
      have hbody : ∀ (W : WX) (pn : List (Addr × Obj)) (xe : Value → Shared → Prop), Takes (X.tr pn xe) W → PassesOwn (model X.prog X.w) X.A X.env xe → PSs (X.tr pn xe) bs (tS G W (evB ⟨T, run T wf d, wf, t, cur⟩ b)) := fun W pn xe tk hpo =>
        okB b ⟨g.tr h1 he pn xe W tk, fun _ => ⟨hpo, hst, hfr⟩⟩ h5
      rw [try_eq]
      split at h4
      · rename_i i y
        simp only [Bool.and_eq_true, decide_eq_true_eq] at h4
        refine ps_tryAsE cc.1 hst hfr (g.N ▸ g.nd) (g.N ▸ h4.1) (by unfold Env.kindOf; rw [g.sc]; exact h4.2) hc g.tk hsub hbody fun a oe cls d pn x hz hf => ?_
        exact okB hh ⟨g.suiteS h1 i a oe cls d pn x hz hf, fun z => by cases z⟩ h6
      · refine ps_tryOnlyE cc.1 hst hfr hc g.tk hsub hbody fun a oe cls d pn x hz hf => ?_
        exact okB hh ⟨g.suiteN h1 a oe pn, fun z => by cases z⟩ h6
      · cases h4
    · cases h
  | .pass, st, S, cur, G, X, Wx, gs, h => by
    unfold chkS at h
    split at h
    · exact ps_passE
    · cases h
  | .brk, st, S, cur, G, X, Wx, gs, h => by
    unfold chkS at h
    split at h
    · exact ps_brkE
    · cases h
  | .cont, st, S, cur, G, X, Wx, gs, h => by
    unfold chkS at h
    split at h
    · exact ps_contE
    · cases h
theorem okB : ∀ (ir : B) {sts : List Stmt} {S : Sx} {cur : Option Ex} {G : Gx} {X : L2.Cx} {Wx : WX}, GdS S T wf d cur G X Wx → chkB S ir sts = true → PSs X sts (tS G Wx (evB ⟨T, run T wf d, wf, t, cur⟩ ir))
  | .nil, sts, S, cur, G, X, Wx, gs, h => by
    unfold chkB at h
    split at h
    · exact pss_nilE
    · rename_i h1; cases h1
    · cases h
  | .cons s r, sts, S, cur, G, X, Wx, gs, h => by
    unfold chkB at h
    split at h
    · rename_i h1; cases h1
    · rename_i h1
      cases h1
      obtain ⟨h1, h2⟩ := band h
      exact pss_consE (okS s gs h1) (okB r gs h2)
    · cases h
end
end
end Mi
end
section
set_option linter.all false
set_option Elab.async false
set_option maxHeartbeats 4000000
set_option autoImplicit false
namespace Mi
open PySem PySem.Spec PyProof.Rows L2 LamX
/-! ### defs that get a lambda: the look -/
def chkAct (S : Sx) (a : Str) : Mi.S → Stmt → Bool
  | .ex .thk, .Expr (.Call (.Name x _) [] [] _) _ => decide (x = a)
  | .ret .thk, .Return (some (.Call (.Name x _) [] [] _)) _ => decide (x = a)
  | .set i .thk, .Assign [.Name y _] (.Call (.Name x _) [] [] _) _ => decide (x = a) && decide (S.N[i]? = some y) && locB S y
  | _, _ => false
def chkK (S : Sx) (a : Str) : B → List Stmt → Bool
  | .cons s r, st :: sts => match s, st with
    | .set i e, .Assign [.Name x _] v _ => decide (S.N[i]? = some x) && locB S x && !decide (i = 0) && !isComp v && chkE S e v && chkK S a r sts
    | .try (.cons act .nil) c slot h, .Try [b] [.ExceptHandler (some (.Name x _)) n (s0 :: ss) _] [] [] _ => glB S x && decide (S.pg.exc.lookup x = some c) && (match slot, n with
      | some i, some y => decide (S.N[i]? = some y) && decide (kd S y = some .local)
      | none, none => true
      | _, _ => false) && chkAct S a act b && chkB (S.suite slot) h (s0 :: ss) && chkB S r sts
    | _, _ => false
  | _, _ => false
section
variable {T : Tab} {wf d : Nat} {S : Sx} {G : Gx} {X : L2.Cx} {Wx : WX} {va : Sg → List Ob → R Val} {σ0 : L2.St} {τ0 : Sg} {f c' : Addr} {q a : Str}
theorem act_ok (gs : GdS S T wf d none G X Wx) (hc : S.hot = false) {s : Mi.S} {st : Stmt} (h : chkAct S a s st = true)
    (act : ∀ (p1 p2 : Pos), PE X (.Call (.Name a p1) [] [] p2) (fun σZ HZ Q => σZ[0]? = some (some (.ref f)) ∧ HZ c' = some (CodeO c' q) ∧ tE G (fun cls d _ H => Wx cls d σZ H) va σ0 HZ Q)) :
    PS X st (tSP (PreL G σ0 τ0 f c' q) G Wx (evS ⟨T, run T wf d, wf, some fun o => va τ0 o, none⟩ s)) := by
  have g := gs.g
  have h0 := (g.cold hc).1
  unfold chkAct at h
  split at h
  · have h := of_decide_eq_true h
    subst h
    exact ps_actE rfl (act _ _)
  · have h := of_decide_eq_true h
    subst h
    exact ps_actR (act _ _)
  · simp only [Bool.and_eq_true, decide_eq_true_eq] at h
    obtain ⟨⟨rfl, h2⟩, h3⟩ := h
    obtain ⟨h6, h7⟩ := locB_ok g h3
    exact ps_actSet h0 (g.N ▸ g.nd) (g.N ▸ h2) h6 h7 rfl (act _ _)
  · cases h
theorem thkK : ∀ (ir : B) {sts : List Stmt} {S : Sx} {X : L2.Cx} {Wx : WX}, GdS S T wf d none G X Wx → S.hot = false → S.lam = none → chkK S a ir sts = true →
    (∀ (W : WX) (pn : List (Addr × Obj)) (xe : Value → Shared → Prop) (p1 p2 : Pos), Takes (X.tr pn xe) W → PE (X.tr pn xe) (.Call (.Name a p1) [] [] p2) (fun σZ HZ Q => σZ[0]? = some (some (.ref f)) ∧ HZ c' = some (CodeO c' q) ∧ tE G (fun cls d _ H => W cls d σZ H) va σ0 HZ Q)) →
    PSs X sts (tSP (PreL G σ0 τ0 f c' q) G Wx (evB ⟨T, run T wf d, wf, some fun o => va τ0 o, none⟩ ir))
  | .nil, sts, S, X, Wx, gs, hc, hlm, h, act => by unfold chkK at h; cases h
  | .cons s r, sts, S, X, Wx, gs, hc, hlm, h, act => by
    have g := gs.g
    have cc := g.cold hc
    unfold chkK at h
    split at h
    · rename_i s' r' st sts heq
      cases heq
      split at h
      · rename_i i e x px v pos
        simp only [Bool.and_eq_true, decide_eq_true_eq, Bool.not_eq_true', decide_eq_false_iff_not] at h
        obtain ⟨⟨⟨⟨⟨h1, h2⟩, h3⟩, h4⟩, h5⟩, h6⟩ := h
        obtain ⟨h7, h8⟩ := locB_ok g h2
        exact pss_setP cc.1 h3 (g.N ▸ g.nd) (g.N ▸ h1) h7 h8 h4 (okE e g h5) (thkK r gs hc hlm h6 act)
      · rename_i ac c slot hh b x np n s0 ss p1 pos
        simp only [Bool.and_eq_true, decide_eq_true_eq] at h
        obtain ⟨⟨⟨⟨⟨h2, h3⟩, h4⟩, h5⟩, h6⟩, h7⟩ := h
        obtain ⟨hg, hd⟩ := glB_ok g h2
        obtain ⟨v, u, hcl, hmu, hex, hkit⟩ := cc.2.2.2.exc x c h3
        have hnm : Names X x u := ⟨hg, hd, hmu⟩
        obtain ⟨hp, hst, hfr⟩ := gs.fr hc
        have he := g.noer hc
        have hsub : SubOk G X.K ⟨T, run T wf d, wf, some fun o => va τ0 o, none⟩ c u := hex
        have hbody : ∀ (W : WX) (pn : List (Addr × Obj)) (xe : Value → Shared → Prop), Takes (X.tr pn xe) W → PassesOwn (model X.prog X.w) X.A X.env xe → PSs (X.tr pn xe) [b] (tSP (PreL G σ0 τ0 f c' q) G W (evB ⟨T, run T wf d, wf, some fun o => va τ0 o, none⟩ (.cons ac .nil))) := fun W pn xe tk hpo => by
          have gt : Gd S T wf d none G (X.tr pn xe) W := by
            have := g.tr hc he pn xe W tk
            have e : ({ S with lam := none } : Sx) = S := by rw [← hlm]
            rw [e] at this
            exact this
          exact pss_consP (act_ok ⟨gt, fun _ => ⟨hpo, hst, hfr⟩⟩ hc h5 fun p1 p2 => act W pn xe p1 p2 tk) pss_nilE
        have rest := okB (t := some fun o => va τ0 o) r gs h7
        split at h4
        · rename_i i y
          simp only [Bool.and_eq_true, decide_eq_true_eq] at h4
          refine pss_consP (ra := evS ⟨T, run T wf d, wf, some fun o => va τ0 o, none⟩ (.try (.cons ac .nil) c (some i) hh)) ?_ rest
          rw [try_eq]
          refine ps_tryAsP cc.1 hst hfr (g.N ▸ g.nd) (g.N ▸ h4.1) (by unfold Env.kindOf; rw [g.sc]; exact h4.2) hnm g.tk hsub hbody fun a oe cls d pn x hz hf => ?_
          exact okB hh ⟨g.suiteS hc i a oe cls d pn x hz hf, fun z => by cases z⟩ h6
        · refine pss_consP (ra := evS ⟨T, run T wf d, wf, some fun o => va τ0 o, none⟩ (.try (.cons ac .nil) c none hh)) ?_ rest
          rw [try_eq]
          refine ps_tryOnlyP cc.1 hst hfr hnm g.tk hsub hbody fun a oe cls d pn x hz hf => ?_
          exact okB hh ⟨g.suiteN hc a oe pn, fun z => by cases z⟩ h6
        · cases h4
      · cases h
    · rename_i h1; cases h
end
end Mi
end
section
set_option linter.all false
set_option Elab.async false
set_option maxHeartbeats 4000000
set_option autoImplicit false
namespace Mi
open PySem PySem.Spec PyProof.Rows L2 LamX
section
variable (pg : Pg) (T : Tab) (wf : Nat) (G : Gx) (P : Program) (w : World) (K : PySem.W.Frag) (mg : Str → Option Value) (base : Heap)
/-- a def keeps what the evaluator says, at a depth, if all that it calls do so at lesser ones -/
def Prom (i : Nat) (f : Addr) (fd : FuncData) (ps : List Str) : Prop := (∀ d ws o, run T wf d i none ws o ≠ .bad → ws.length = ps.length) ∧
  ∀ d, (∀ e, e ≤ d → PgOk pg T wf e G P w K mg base) → FnG P w K mg base (L2.CX P w) (4 * (d + 1)) f fd ps (spM G (fun ws o => run T wf (d + 1) i none ws o) ps.length)
/-- a def that gets a lambda, by its text -/
structure ThkS (x : Str) (fid : Nat) (a : Str) (g : Addr) (pr : Arguments) (bg : List Stmt) (sg : Scope) (dV kV doc pm cdv ct oc : Value) (an od : Option Addr) (osl : Array (Option Value)) (Ng : List Str) (fn : Fn) : Prop where
  hm : mg x = some (.ref g)
  hk : PySem.W.keepIn K (.ref g) = true
  lk : K.lookup g = some ⟨oc, od, .func (PySem.W.fnOf x x pr bg sg dV kV doc pm an cdv ct), osl⟩
  hcg : PySem.W.codeIn K cdv x = true
  hb : L2.Binds K (PySem.W.fnOf x x pr bg sg dV kV doc pm an cdv ct) [a] []
  Sg : FnScope Ng [a] sg
  hf : T.fn fid = some fn
  hnt : T.nat fid = none
  hns : Ng.length = fn.ns
  hnp : fn.np = 0
  da : (a == ("__debug__" : Str)) = false
  ca : (a == ("__classdict__" : Str)) = false
  chk : chkK ⟨pg, Ng, sg, fun _ => true, false, none, none⟩ a fn.body bg = true
/-- the program, by its text; the defs' promises apart -/
structure PgS : Prop where
  h0 : G.er = none
  hK : K = G.K
  C : ClsOk G
  nm : G.names = pg.names
  eg : ErrG G
  fr : ∀ x ∈ pg.free, mg x = none
  ks : ∀ x i, pg.ks.lookup x = some i → ∃ t, mg x = some (.int i t)
  fn : ∀ x i, pg.fns.lookup x = some i → ∃ f fd ps, mg x = some (.ref f) ∧ PySem.W.keepIn K (.ref f) = true ∧ Binds K fd ps [] ∧ Prom pg T wf G P w K mg base i f fd ps
  cl : ∀ x c, pg.cls.lookup x = some c → ∃ C cl fi f fd ps, mg x = some (.ref C) ∧ (G.ga c = some C ∧ G.isC c = true) ∧ T.cl c = some cl ∧ cl.init = some fi ∧ Mk K C f ∧ Binds K fd ps [] ∧ Prom pg T wf G P w K mg base fi f fd ps
  own : ∀ c C, G.ga c = some C → G.isC c = true → ∀ g, (T.cl c).bind (·.eqm) = some g → ∃ f fd ps, OwnQ G C f ∧ Binds K fd ps [] ∧ ps.length = 2 ∧ Prom pg T wf G P w K mg base g f fd ps
  er : ∀ x c fo, pg.ers.lookup x = some (c, fo) → ∃ C cl, mg x = some (.ref C) ∧ (G.ga c = some C ∧ G.isE c = true) ∧ T.cl c = some cl ∧ cl.ex = some fo.toList ∧ (∀ kf, fo = some kf → ∃ f, pg.names[kf]? = some f ∧ ErrOk P K mg C (some f)) ∧ (fo = none → ErrOk P K mg C none)
  exc : ∀ x c, pg.exc.lookup x = some c → ∃ v u, ClsV v u ∧ (mg x = some u ∨ (mg x = none ∧ bootBuiltins x = some u ∧ x ≠ "__name__")) ∧ (∀ k C, G.ga k = some C → G.isE k = true → PySem.W.exmOne K (.ref C) u = some (T.sub k c)) ∧ ∀ k C, G.ga k = some C → G.isE k = true → PySem.W.kitOne G.K (.ref C) u = some (T.sub k c)
/-- the defs that get a lambda -/
def PgT : Prop := ∀ x fid, pg.thk.lookup x = some fid → ∃ (a : Str) (g : Addr) (pr : Arguments) (bg : List Stmt) (sg : Scope) (dV kV doc pm cdv ct oc : Value) (an od : Option Addr) (osl : Array (Option Value)) (Ng : List Str) (fn : Fn),
  ThkS pg T K mg x fid a g pr bg sg dV kV doc pm cdv ct oc an od osl Ng fn
end
section
variable {pg : Pg} {T : Tab} {wf : Nat} {G : Gx} {P : Program} {w : World} {K : PySem.W.Frag} {mg : Str → Option Value} {base : Heap}
theorem fn0 {i : Nat} {f : Addr} {fd : FuncData} {ps : List Str} {k : Nat} : FnG P w K mg base (L2.CX P w) k f fd ps (spM G (fun ws o => run T wf 0 i none ws o) ps.length) :=
  ⟨fun vs H Q E h => h.1, fun A outer s H args us vs Q E hr e0 hb r h => by
    obtain ⟨_, A', ρ, o, ws, _, _, q⟩ := h
    exact q.elim⟩
theorem PgS.zero (s : PgS pg T wf G P w K mg base) : PgOk pg T wf 0 G P w K mg base where
  C := s.C
  nm := s.nm
  eg := s.eg
  fr := s.fr
  ks := s.ks
  fn := fun x i h => by
    obtain ⟨f, fd, ps, h1, h2, h3, h4⟩ := s.fn x i h
    exact ⟨f, fd, ps, ps.length, h1, h2, h3, h4.1 0, fn0⟩
  cl := fun x c h => by
    obtain ⟨C, cl, fi, f, fd, ps, h1, h2, h3, h4, h5, h6, h7⟩ := s.cl x c h
    exact ⟨C, cl, fi, f, fd, ps, ps.length, h1, h2, h3, h4, h5, h6, h7.1 0, fn0⟩
  own := fun c C a b g e => by
    obtain ⟨f, fd, ps, h1, h2, h3, h4⟩ := s.own c C a b g e
    exact ⟨f, fd, ps, h1, h2, h3 ▸ fn0⟩
  er := s.er
  exc := s.exc
theorem PgS.succ (s : PgS pg T wf G P w K mg base) {d : Nat} (ih : ∀ e, e ≤ d → PgOk pg T wf e G P w K mg base) : PgOk pg T wf (d + 1) G P w K mg base where
  C := s.C
  nm := s.nm
  eg := s.eg
  fr := s.fr
  ks := s.ks
  fn := fun x i h => by
    obtain ⟨f, fd, ps, h1, h2, h3, h4⟩ := s.fn x i h
    exact ⟨f, fd, ps, ps.length, h1, h2, h3, h4.1 (d + 1), h4.2 d ih⟩
  cl := fun x c h => by
    obtain ⟨C, cl, fi, f, fd, ps, h1, h2, h3, h4, h5, h6, h7⟩ := s.cl x c h
    exact ⟨C, cl, fi, f, fd, ps, ps.length, h1, h2, h3, h4, h5, h6, h7.1 (d + 1), h7.2 d ih⟩
  own := fun c C a b g e => by
    obtain ⟨f, fd, ps, h1, h2, h3, h4⟩ := s.own c C a b g e
    exact ⟨f, fd, ps, h1, h2, h3 ▸ h4.2 d ih⟩
  er := s.er
  exc := s.exc
theorem PgS.all (s : PgS pg T wf G P w K mg base) (d : Nat) : PgOk pg T wf d G P w K mg base := by
  have go : ∀ d e, e ≤ d → PgOk pg T wf e G P w K mg base := by
    intro d
    induction d with
    | zero => intro e h; cases Nat.le_zero.mp h; exact s.zero
    | succ d ih =>
      intro e h
      by_cases z : e ≤ d
      · exact ih e z
      · have : e = d + 1 := by omega
        subst this
        exact s.succ ih
  exact go d d (Nat.le_refl d)
/-- the ground of a def's body -/
theorem gd_def {d : Nat} (h0 : G.er = none) (hK : K = G.K) (O : PgOk pg T wf d G P w K mg base) (A' : List Addr) {CX : CXT} {N ps : List Str} {qual : Str} {scope : Scope} {f : Addr} {cd : Value} {A : Around} {outer : List Env} {s : Shared} {H : Hp} {E : XK} (S : FnScope N ps scope) {lam : Option (Nat × Str)}
    (hcx : CX = L2.CX P w) (hr : RoomG (4 * d + 1) (A.deeper (envOfC qual scope s.heap.objs.size f cd)))
    (hl : ∀ j q, lam = some (j, q) → RoomG (4 * d + 3) (A.deeper (envOfC qual scope s.heap.objs.size f cd)) ∧ (qual ++ ".<locals>.") ++ "<lambda>" = q ∧ (∃ c, TabB base mg c (G.tp j) ∧ cd = .ref c) ∧ LamP pg T wf d (gA G A') (cxOf CX P w K mg base N qual scope f cd A outer s H E)) :
    GdS ⟨pg, N, scope, fun _ => true, false, none, lam⟩ T wf d none (gA G A') (cxOf CX P w K mg base N qual scope f cd A outer s H E) (fun cls d _ H => E cls d H) where
  g := {
    nm := O.nm
    C := ⟨O.C.cls, O.C.noat, O.C.nd, O.C.ty, O.C.kt, O.C.ko, O.C.kk⟩
    fr := O.fr
    ks := O.ks
    hK := hK
    N := rfl
    nd := S.nd
    sc := rfl
    hu := hr.hu
    gd := hr.gd
    fn := fun _ _ => rfl
    tk := by subst hcx; exact takes_of rfl rfl rfl rfl
    cold := fun _ => ⟨h0, rfl, hr, O.gA A'⟩
    er := fun i h => by cases h
    ers := fun e h => by rw [show (gA G A').er = G.er from rfl, h0] at h; cases h
    lam := fun j q h => by
      have h : lam = some (j, q) := h
      obtain ⟨a, b, c, e⟩ := hl j q h
      have e1 : (cxOf CX P w K mg base N qual scope f cd A outer s H E).env.qual = qual ++ ".<locals>." := rfl
      exact ⟨a, by rw [e1]; exact b, c, e⟩ }
  fr := fun _ => ⟨passes_of rfl, rfl, rfl⟩
/-- what the lambdas' takers promise -/
theorem lamP_of (h0 : G.er = none) (hK : K = G.K) (t : PgT pg T K mg) {d : Nat} (O : ∀ e, e ≤ d → PgOk pg T wf e G P w K mg base) (A' : List Addr) {X : L2.Cx} (e1 : X.prog = P) (e2 : X.w = w) (e3 : X.K = K) (e4 : X.mg = mg) (e5 : X.base = base) : LamP pg T wf d (gA G A') X := by
  intro x fid hx d' hd
  obtain ⟨a, g, pr, bg, sg, dV, kV, doc, pm, cdv, ct, oc, an, od, osl, Ng, fn, D⟩ := t x fid hx
  have hN0 : Ng[0]? = some a := by
    have := D.Sg.pre
    cases Ng with
    | nil => simp at this
    | cons y r => simp at this; simp [this]
  have hva : Vis sg a := by
    rcases D.Sg.par a (by simp) with q | q
    · exact .inl q
    · exact .inr (.inl q)
  refine ⟨a, g, pr, bg, sg, dV, kV, doc, pm, cdv, ct, oc, an, od, osl, Ng, fn, e4 ▸ D.hm, e3 ▸ D.hk, e3 ▸ D.lk, e3 ▸ D.hcg, e3 ▸ D.hb, D.Sg, hN0, hva, D.hf, D.hnt, D.hns, D.hnp, ?_, D.da, D.ca, ?_⟩
  · rw [← D.hns]
    cases Ng with
    | nil => simp at hN0
    | cons y r => simp
  · intro f c' s H E σ0 τ0 va tt hr ht act
    subst e1 e2 e3 e4 e5
    have hr' : RoomG (4 * d' + 1) (X.A.deeper (envOfC x sg s.heap.objs.size g cdv)) := hr.mono (by omega)
    exact thkK fn.body (gd_def (lam := none) h0 hK (O d' (by omega)) A' D.Sg rfl hr' (fun j q h => by cases h)) rfl rfl D.chk act
/-- a def's promise, by the look at its text -/
theorem prom_def (h0 : G.er = none) (hK : K = G.K) (t : PgT pg T K mg) {i : Nat} {f : Addr} {name qual : Str} {params : Arguments} {body : List Stmt} {scope : Scope} {dV kV doc pm cdv ct oc : Value} {an od : Option Addr} {osl : Array (Option Value)} {N ps : List Str} {g : Fn} {lam : Option (Nat × Str)}
    (lk : K.lookup f = some ⟨oc, od, .func (PySem.W.fnOf name qual params body scope dV kV doc pm an cdv ct), osl⟩) (hcd : PySem.W.codeIn K cdv qual = true) (S : FnScope N ps scope) (hf : T.fn i = some g) (hnt : T.nat i = none) (hns : N.length = g.ns) (hnp : ps.length = g.np)
    (hl : ∀ j q, lam = some (j, q) → (qual ++ ".<locals>.") ++ "<lambda>" = q ∧ ∃ c, TabB base mg c (G.tp j) ∧ cdv = .ref c)
    (chk : chkB ⟨pg, N, scope, fun _ => true, false, none, lam⟩ g.body body = true) : Prom pg T wf G P w K mg base i f (PySem.W.fnOf name qual params body scope dV kV doc pm an cdv ct) ps := by
  refine ⟨fun d ws o h => ?_, fun d O => ?_⟩
  · cases d with
    | zero => exact absurd rfl h
    | succ d =>
      unfold run at h
      rw [hnt, hf] at h
      simp only at h
      split at h
      · rename_i e; rw [hnp]; exact e
      · exact absurd rfl h
  · refine fn_ofG lk hcd S (fun vs H Q E h => h.1) fun A outer s H vs Q E hr h => ?_
    obtain ⟨_, A', ρ, o, ws, b, r, q⟩ := h
    have hr : RoomG (4 * d + 3) (A.deeper (envOfC qual scope s.heap.objs.size f cdv)) := hr
    have gs := gd_def (CX := L2.CX P w) (qual := qual) (cd := cdv) (lam := lam) h0 hK (O d (Nat.le_refl d)) A' S (f := f) (A := A) (outer := outer) (s := s) (H := H) (E := E) rfl (hr.mono (by omega)) (fun j q e => by
      obtain ⟨e1, c, tb, e2⟩ := hl j q e
      exact ⟨hr.mono (by omega), e1, ⟨c, tb, e2⟩, lamP_of h0 hK t O A' rfl rfl rfl rfl rfl⟩)
    exact ⟨_, okB (t := none) g.body gs chk, body_sp (G := gA G A') h0 hf hnt hns b r q⟩
end
end Mi
end
section
set_option linter.all false
set_option Elab.async false
set_option maxHeartbeats 4000000
set_option autoImplicit false
namespace Mi
open PySem PySem.Spec PyProof.Rows L2 LamX
section
variable {P : Program} {w : World} {K : PySem.W.Frag} {mg : Str → Option Value} {fa a : Addr} {fd : FuncData} {sp : Sp} {s1 : Shared} {k : Nat}
/-- the tracked things: the script's list, the tables -/
def startH (tabs : List Addr) (a : Addr) (yes : Bool) (vs : List Value) (ns : List Int) : Hp := fun b =>
  if b ∈ tabs then some (.tbl #[]) else if yes && b == a then some (.frz { cls := .type "list", data := .seq vs.toArray } (.lst (ns.map V.int))) else none
variable {tabs : List Addr} {yes : Bool} {vs : List Value} {ns : List Int}
theorem startH_some {b : Addr} (h : startH tabs a yes vs ns b ≠ none) : b ∈ tabs ∨ (yes = true ∧ b = a) := by
  unfold startH at h
  split at h
  · exact .inl (by assumption)
  · split at h
    · rename_i q
      simp at q
      exact .inr q
    · exact absurd rfl h
theorem startH_tab {b : Addr} (h : b ∈ tabs) : startH tabs a yes vs ns b = some (.tbl #[]) := if_pos h
theorem startH_a (h : a ∉ tabs) : startH tabs a true vs ns a = some (.frz { cls := .type "list", data := .seq vs.toArray } (.lst (ns.map V.int))) := by
  unfold startH
  rw [if_neg h]
  simp
/-- what the law's call asks of the heap -/
structure AtLaw (K : PySem.W.Frag) (mg mb : Str → Option Value) (tabs : List Addr) (a : Addr) (vs : List Value) (ns : List Int) (s1 : Shared) : Prop where
  k : K.In s1.heap
  g : s1.heap.Ns mainGlobals mg
  b : s1.heap.Ns builtinsNs mb
  bb : ∀ x : Str, x ≠ "__name__" → mb x = bootBuiltins x
  lim : s1.heap.NoLimit
  gen : s1.gens = #[]
  tab : ∀ p ∈ tabs, s1.heap.get? p = some { cls := .none, data := .fields #[] }
  out : ∀ p ∈ tabs, K.lookup p = none
  arg : s1.heap.get? a = some { cls := .type "list", data := .seq vs.toArray }
  isn : IntsAre vs ns
  len : ns.length ≤ sizeLine
theorem AtLaw.notab {mb : Str → Option Value} (L : AtLaw K mg mb tabs a vs ns s1) : a ∉ tabs := fun m => by
  have e := L.tab a m
  rw [L.arg] at e
  exact nomatch (congrArg Obj.data (Option.some.inj e))
/-- a thing of another make is not tracked -/
theorem AtLaw.free {mb : Str → Option Value} (L : AtLaw K mg mb tabs a vs ns s1) {b : Addr} {o : Obj} (e : s1.heap.get? b = some o) (h1 : ∀ us n, o.data ≠ .seq us n) (h2 : o.data ≠ .fields #[]) : startH tabs a yes vs ns b = none := by
  cases q : startH tabs a yes vs ns b with
  | none => rfl
  | some u =>
    rcases startH_some (by rw [q]; exact fun z => by cases z) with m | ⟨_, m⟩
    · rw [L.tab b m] at e
      cases e
      exact absurd rfl h2
    · rw [m, L.arg] at e
      cases e
      exact absurd rfl (h1 _ _)
theorem AtLaw.hok {mb : Str → Option Value} (L : AtLaw K mg mb tabs a vs ns s1) : HOk P w (startH tabs a yes vs ns) s1.heap := fun b u e => by
  unfold startH at e
  split at e
  · cases e
    exact L.tab b (by assumption)
  · split at e
    · rename_i q
      simp at q
      cases e
      rw [q.2]
      exact ⟨L.arg, by rw [List.length_map]; exact L.len, vs, _, vals_ints L.isn, L.arg⟩
    · cases e
theorem AtLaw.keep {mb : Str → Option Value} (L : AtLaw K mg mb tabs a vs ns s1) {b : Addr} {o : Obj} (e : s1.heap.get? b = some o) (h1 : ∀ us n, o.data ≠ .seq us n) (h2 : o.data ≠ .fields #[]) : (hidT s1.heap (startH tabs a yes vs ns)).get? b = some o := hidT_get e (L.free e h1 h2)
theorem AtLaw.nsk {mb m : Str → Option Value} {b : Addr} (L : AtLaw K mg mb tabs a vs ns s1) (h : s1.heap.Ns b m) : (hidT s1.heap (startH tabs a yes vs ns)).Ns b m := by
  obtain ⟨o, es, ep, e, dd, r⟩ := h
  exact ⟨o, es, ep, L.keep e (fun us n z => by rw [dd] at z; cases z) (fun z => by rw [dd] at z; cases z), dd, r⟩
theorem AtLaw.kin {mb : Str → Option Value} (L : AtLaw K mg mb tabs a vs ns s1) (hy : yes = true → K.lookup a = none) : K.In (hidT s1.heap (startH tabs a yes vs ns)) := fun b o e => hidT_get (L.k b o e) (by
  cases q : startH tabs a yes vs ns b with
  | none => rfl
  | some u =>
    rcases startH_some (by rw [q]; exact fun z => by cases z) with m | ⟨y, m⟩
    · rw [L.out b m] at e; cases e
    · rw [m, hy y] at e; cases e)
theorem AtLaw.env {mb : Str → Option Value} (L : AtLaw K mg mb tabs a vs ns s1) (hy : yes = true → K.lookup a = none) : Env0 P w K mg (hidT s1.heap (startH tabs a yes vs ns)) callerA [] s1 (startH tabs a yes vs ns) where
  frames := rfl
  mod := ⟨L.kin hy, L.nsk L.g, ⟨mb, L.nsk L.b, L.bb⟩, by
    obtain ⟨mc, h1, h2⟩ := L.lim
    exact ⟨mc, L.nsk h1, h2⟩⟩
  bs := fun b o e => of_hidT e
  bsz := Nat.le_of_eq (hidT_size _ _)
  funs := trivial
  frf := fun b hb => by cases hb
  hok := L.hok
  bare := .of_eq L.gen
theorem AtLaw.tabB {mb : Str → Option Value} (L : AtLaw K mg mb tabs a vs ns s1) {c p : Addr} (hp : p ∈ tabs) (C : PySem.W.CodeHd s1.heap c p)
    (hbm : ∃ (bm : Addr) (ob : Obj), mg "__builtins__" = some (.ref bm) ∧ bm ≠ builtinsNs ∧ s1.heap.get? bm = some ob ∧ ob.cls = .type "module" ∧ ob.dict = some builtinsNs ∧ ob.data = .plain) : TabB (hidT s1.heap (startH tabs a yes vs ns)) mg c p := by
  have ht := L.tab p hp
  have gne : mainGlobals ≠ p := fun z => by
    obtain ⟨o, es, ep, e, dd, _⟩ := L.g
    rw [z, ht] at e
    cases e; cases dd
  refine ⟨?_, ?_, gne⟩
  · obtain ⟨o, us, file, tf, flags, tg, inF, text, tt, q0, q1, q2, q3, q⟩ := C
    exact ⟨o, us, file, tf, flags, tg, inF, text, tt, L.keep q0 (fun us n z => by rw [q2] at z; cases z) (fun z => by rw [q2] at z; cases z; simp at q3), q1, q2, q3, q⟩
  · obtain ⟨bm, ob, b1, b2, b3, b4, b5, b6⟩ := hbm
    refine ⟨bm, ob, b1, b2, fun z => ?_, fun z => ?_, L.keep b3 (fun us n z => by rw [b6] at z; cases z) (fun z => by rw [b6] at z; cases z), b4, b5, b6⟩
    · obtain ⟨o, es, ep, e, dd, _⟩ := L.g
      rw [← z, b3] at e
      cases e
      rw [b6] at dd; cases dd
    · rw [z, ht] at b3
      cases b3; cases b6
/-- the law's call: true, and what stood stands -/
theorem law_callG {mb : Str → Option Value} {CX : CXT} {cs : List (Addr × Addr)} {x : Str} (L : AtLaw K mg mb (cs.map (·.2)) a vs ns s1) (C : ∀ p ∈ cs, PySem.W.CodeHd s1.heap p.1 p.2)
    (hbm : ∃ (bm : Addr) (ob : Obj), mg "__builtins__" = some (.ref bm) ∧ bm ≠ builtinsNs ∧ s1.heap.get? bm = some ob ∧ ob.cls = .type "module" ∧ ob.dict = some builtinsNs ∧ ob.data = .plain)
    (hr : RoomG k callerA) (hy : K.lookup a = none) (F : ∀ base : Heap, K.In base → base.Ns mainGlobals mg → (∀ p ∈ cs, TabB base mg p.1 p.2) → FnG P w K mg base CX k fa fd [x] sp) (hb : ∀ (s : Shared) (u : Value), BindsTo s fd ⟨[u], []⟩ [(x, u)])
    (hsp : sp [.ref a] (startH (cs.map (·.2)) a true vs ns) (fun v _ => v = .bl true) fun _ _ _ => False) (hCX : ∀ H e s', CX [] H s1 (fun _ _ _ => False) e s' → False) :
    codeAny (model P w) callerA (.call (.ref fa) ⟨[.ref a], []⟩) (fun r s' => r = .ok (.ret (.bool true)) ∧ OldK s1.heap s'.heap ∧ s'.os = s1.os ∧ AllBare s'.gens) s1 := by
  have E := L.env (P := P) (w := w) (yes := true) fun _ => hy
  have tb : ∀ p ∈ cs, TabB (hidT s1.heap (startH (cs.map (·.2)) a true vs ns)) mg p.1 p.2 := fun p hp => L.tabB (List.mem_map_of_mem hp) (C p hp) hbm
  refine codeAny_mono ((F _ E.mod.kin E.mod.glob tb).run callerA [] s1 _ ⟨[.ref a], []⟩ [.ref a] [.ref a] _ _ hr E (hb s1 _) (.cons rfl .nil) hsp) fun r s' h => ?_
  cases r with
  | error e => exact (hCX _ e s' h).elim
  | ok fl => cases fl with
    | next => exact False.elim h
    | brk => exact False.elim h
    | cont => exact False.elim h
    | ret u =>
      obtain ⟨v, H', os, bare, un, hk', rv, q⟩ := h
      have q : v = .bl true := q
      subst q
      have eu : u = Value.bool true := rv
      subst eu
      refine ⟨rfl, ⟨fun b o e => ?_, fun b o e => ?_⟩, os, bare⟩
      · by_cases m : b ∈ cs.map (·.2)
        · obtain ⟨more, z⟩ := un.tbls b #[] (startH_tab m)
          have e0 := L.tab b m
          rw [e] at e0
          cases e0
          obtain ⟨p, hp, rfl⟩ := List.mem_map.mp m
          refine .inr (.inl ⟨((C p hp).tab e).isCodeTable, rfl, #[], more, rfl, ?_⟩)
          rw [Array.empty_append]
          have := hk' _ _ z
          rw [Array.empty_append] at this
          exact this
        · by_cases n : b = a
          · subst n
            have z := un.frzs b _ _ (startH_a m)
            obtain ⟨z1, _⟩ := hk' b _ z
            rw [L.arg] at e
            cases e
            exact .inl z1
          · refine .inl (un.keep b o e ?_ (show b ∉ ([] : List Addr) from by simp) (by simp))
            cases y : startH (cs.map (·.2)) a true vs ns b with
            | none => rfl
            | some u =>
              rcases startH_some (by rw [y]; exact fun z => by cases z) with c | ⟨_, c⟩
              · exact absurd c m
              · exact absurd c n
      · obtain ⟨o', z⟩ := un.there b o e (by simp)
        exact ⟨o', z⟩
/-- a law, by what its head tells -/
theorem walk_G {l : PySem.W.OpenLaw} {n k : Nat} {q : Program} {loose : List Str} {XP : (Str → Option Value) → Heap → Prop} {YP : World → Heap → Prop} {d : DefRec} {x : Str}
    (hn : l.most = some n) (hn2 : n ≤ sizeLine) (hdf : d.params.defaults = []) (hr : RoomG k callerA)
    (F : ∀ (w : World) (mg : Str → Option Value) (fa : Addr) (h : Heap), YP w h → h.Ns mainGlobals mg → mg d.name = some (.ref fa) →
      ∃ (K : PySem.W.Frag) (fd : FuncData) (cs : List (Addr × Addr)) (sp : Sp), K.In h ∧ (∀ b o, K.lookup b = some o → o.cls ≠ .type "list") ∧ (∀ p ∈ cs, h.get? p.2 = some { cls := .none, data := .fields #[] }) ∧ (∀ p ∈ cs, K.lookup p.2 = none) ∧ (∀ p ∈ cs, PySem.W.CodeHd h p.1 p.2) ∧
        (∀ (s : Shared) (u : Value), BindsTo s fd ⟨[u], []⟩ [(x, u)]) ∧
        (∀ (a : Addr) (vs : List Value) (ns : List Int), a ∉ cs.map (·.2) → ns.length ≤ n → (∀ z ∈ ns, Builtin.Int.intBits z ≤ 1048576) → sp [.ref a] (startH (cs.map (·.2)) a true vs ns) (fun v _ => v = .bl true) fun _ _ _ => False) ∧
        ∀ base : Heap, K.In base → base.Ns mainGlobals mg → (∀ p ∈ cs, TabB base mg p.1 p.2) → FnG l.prog w K mg base (L2.CX l.prog w) k fa fd [x] sp) :
    PySem.W.WalkO q loose XP YP l.row.toRowW d [] (fun f vs => PySem.call f vs) := by
  refine Att.attach_callB hn hdf fun w s0 s1 mg mb fa o pm cd doc a vs ns G Y ho hd hcd hmg hobj hints hlen hbits hg => ?_
  obtain ⟨K, fd, cs, sp, KX, nl, hT, nT, C, hb, hsp, hF⟩ := F w mg fa _ Y G.T.g hmg
  have L : AtLaw K mg mb (cs.map (·.2)) a vs ns s1 := ⟨KX, G.T.g, G.T.b, G.T.builtins, G.T.nolimit, hg, fun p hp => by
    obtain ⟨q, hq, rfl⟩ := List.mem_map.mp hp
    exact hT q hq, fun p hp => by
    obtain ⟨q, hq, rfl⟩ := List.mem_map.mp hp
    exact nT q hq, hobj, hints, Nat.le_trans hlen hn2⟩
  have hy : K.lookup a = none := by
    cases e : K.lookup a with
    | none => rfl
    | some o =>
      have e2 := KX a o e
      rw [hobj] at e2
      cases e2
      exact absurd rfl (nl a _ e)
  exact law_callG L C G.T.bmain hr hy hF hb (hsp a vs ns L.notab hlen hbits) fun H e s' z => by
    obtain ⟨_, _, _, _, _, _, _, _, _, _, _, _, z⟩ := z
    exact z
end
end Mi
end
section
set_option linter.all false
set_option Elab.async false
set_option maxHeartbeats 4000000
set_option autoImplicit false
namespace Mi
open PySem PySem.Spec PyProof.Rows L2 LamX
open PySem.SVX
/-! ### what a head tells -/
/-- the program's classes, errors, names: by text -/
structure Sta where
  clss : List (Str × Nat)
  eqs : List Nat
  errs : List (Str × (Nat × Option Nat))
  exc : List (Str × Nat)
  names : List Str
  tf : List He.Defn
def Sta.ix (s : Sta) : List (Nat × Str) := s.clss.map (fun p => (p.2, p.1)) ++ s.errs.map fun p => (p.2.1, p.1)
def gOf (s : Sta) (dr : List D → List (Nat × Nat) → Prop) (K : PySem.W.Frag) : Gx where
  K := K
  ga := fun i => (s.ix.lookup i).map (He.ga K)
  isC := fun i => decide (i ∈ s.clss.map (·.2))
  isE := fun i => decide (i ∈ s.errs.map (·.2.1))
  names := s.names
  tp := fun j => match s.tf[j]? with
    | some p => (He.cT K p).2
    | none => 0
  dr := dr
/-! ### __init__ of an error, by its look -/
def errInit0 : Arguments → List Stmt → Scope → Bool
  | ⟨[], [⟨s, none, _⟩], none, [], [], none, []⟩, [.Expr (.Call (.Attribute (.Call (.Name su _) [] [] _) ini p2) [.Constant (.str _) _ _] [] p4) _], scope =>
    decide (s = ("self" : Str)) && decide (su = ("super" : Str)) && decide (ini = ("__init__" : Str)) && (p2.endLine == p4.line) && decide (scope = iS0)
  | _, _, _ => false
theorem errInit0_ok {pr : Arguments} {body : List Stmt} {scope : Scope} (h : errInit0 pr body scope = true) : ∃ (txt : Str) (j : Nat) (a1 p0 p1 p2 p3 p4 p5 : Pos), pr = iA0 a1 ∧ body = [iE txt j p0 p1 p2 p3 p4 p5] ∧ scope = iS0 ∧ (p2.endLine == p4.line) = true := by
  unfold errInit0 at h
  split at h
  · simp only [Bool.and_eq_true, decide_eq_true_eq] at h
    obtain ⟨⟨⟨⟨rfl, rfl⟩, rfl⟩, h4⟩, rfl⟩ := h
    exact ⟨_, _, _, _, _, _, _, _, _, rfl, rfl, rfl, h4⟩
  · cases h
def errInit1 (f : Str) : Arguments → List Stmt → Scope → Bool
  | ⟨[], [⟨s, none, _⟩, ⟨f1, none, _⟩], none, [], [], none, []⟩, [.Expr (.Call (.Attribute (.Call (.Name su _) [] [] _) ini p2) [.Constant (.str _) _ _] [] p4) _, .Assign [.Attribute (.Name s2 _) f2 _] (.Name f3 _) _], scope =>
    decide (s = ("self" : Str)) && decide (su = ("super" : Str)) && decide (ini = ("__init__" : Str)) && (p2.endLine == p4.line) && decide (scope = iS1 f) && decide (f1 = f) && decide (s2 = ("self" : Str)) && decide (f2 = f) && decide (f3 = f)
  | _, _, _ => false
theorem errInit1_ok {f : Str} {pr : Arguments} {body : List Stmt} {scope : Scope} (h : errInit1 f pr body scope = true) : ∃ (txt : Str) (j : Nat) (a1 p0 p1 p2 p3 p4 p5 a2 q1 q2 q3 q4 : Pos), pr = iA1 f a1 a2 ∧ body = [iE txt j p0 p1 p2 p3 p4 p5, iF f q1 q2 q3 q4] ∧ scope = iS1 f ∧ (p2.endLine == p4.line) = true := by
  unfold errInit1 at h
  split at h
  · simp only [Bool.and_eq_true, decide_eq_true_eq] at h
    obtain ⟨⟨⟨⟨⟨⟨⟨⟨rfl, rfl⟩, rfl⟩, h4⟩, rfl⟩, rfl⟩, rfl⟩, rfl⟩, rfl⟩ := h
    exact ⟨_, _, _, _, _, _, _, _, _, _, _, _, _, _, rfl, rfl, rfl, h4⟩
  · cases h
def excObjB (K : PySem.W.Frag) (C : Addr) : Bool := match K.lookup C with
  | some ⟨.type t, _, .cls cd, sl⟩ => decide (t = "type") && (match cd.mro with
      | .ref C' :: bm => decide (C' = C) && PySem.HandSPX.refsVE bm
      | _ => false) && cd.hasDict && !cd.hasDel && (match sl.toList with
      | [_, _, _, _, some (.builtin n), _] => decide (n = "ValueError.__new__")
      | _ => false)
  | _ => false
theorem excObjB_ok {K : PySem.W.Frag} {C : Addr} (h : excObjB K C = true) : ∃ nm q N bs bm sn sub ab col dd k0 k1 k2 k3 k5, K.lookup C = some (excClassObj nm q C N bs bm true sn sub ab col dd k0 k1 k2 k3 k5 "ValueError.__new__") ∧ PySem.HandSPX.refsVE bm = true := by
  unfold excObjB at h
  split at h
  · rename_i t dd cd sl e
    simp only [Bool.and_eq_true, Bool.not_eq_true', decide_eq_true_eq] at h
    obtain ⟨⟨⟨⟨rfl, h2⟩, h3⟩, h4⟩, h5⟩ := h
    obtain ⟨nm, bs, mro, ns, qn, hd, sn, sub, ab, col, del⟩ := cd
    dsimp only at h2 h3 h4
    subst h3 h4
    split at h2
    · rename_i C' bm
      simp only [Bool.and_eq_true, decide_eq_true_eq] at h2
      obtain ⟨rfl, h2⟩ := h2
      split at h5
      · rename_i k0 k1 k2 k3 n k5 hs
        have h5 := of_decide_eq_true h5
        subst h5
        have hs2 : sl = #[k0, k1, k2, k3, some (.builtin "ValueError.__new__"), k5] := by
          obtain ⟨l⟩ := sl
          exact congrArg Array.mk hs
        subst hs2
        exact ⟨_, _, _, _, bm, _, _, _, _, _, _, _, _, _, _, e, h2⟩
      · cases h5
    · cases h2
  · cases h
/-- a function object that is an error's __init__ -/
def initB (P : Program) (K : PySem.W.Frag) (C : Addr) (fld : Option Str) (fI : Addr) : Bool := match K.lookup fI with
  | some ⟨_, _, .func fd, _⟩ => decide (fd.name = ("__init__" : Str)) && decide (fd.globals = mainGlobals) && decide (fd.builtins = builtinsNs) && (match fd.defaults with | .none => true | _ => false) && (match fd.body with
      | .stmts body => (match fld with
        | none => errInit0 fd.params body fd.scope
        | some f => errInit1 f fd.params body fd.scope)
      | _ => false) && (match fd.closure with
      | [(n, cc)] => decide (n = ("__class__" : Str)) && (match K.lookup cc with
        | some ⟨_, _, .cell (some (.ref C')), _⟩ => decide (C' = C)
        | _ => false)
      | _ => false) && PySem.W.codeIn K fd.code fd.qualname && (match fd.code with
      | .ref cda => (match K.lookup cda with
        | some ⟨_, _, .fields vs, _⟩ => (match (vs[2]? : Option Value) with
          | some (Value.str file _) => (P.main.file : Str) == file
          | _ => false)
        | _ => false)
      | _ => false)
  | _ => false
theorem initB_ok {P : Program} {K : PySem.W.Frag} {C fI : Addr} {fld : Option Str} (h : initB P K C fld fI = true) : ∃ (cc cda : Addr) (qual txt : Str) (kV doc pm ct oc : Value) (an od : Option Addr) (osl : Array (Option Value)) (j : Nat) (a1 p0 p1 p2 p3 p4 p5 : Pos),
    PySem.W.codeIn K (.ref cda) qual = true ∧ (p2.endLine == p4.line) = true ∧ (∃ cl cld csl, K.lookup cc = some ⟨cl, cld, .cell (some (.ref C)), csl⟩) ∧ (∃ ccl cdd vs ccs file tf, K.lookup cda = some ⟨ccl, cdd, .fields vs, ccs⟩ ∧ vs[2]? = some (.str file tf) ∧ ((P.main.file : Str) == file) = true) ∧ match fld with
    | none => K.lookup fI = some ⟨oc, od, .func (PySem.W.ksFn "__init__" qual (iA0 a1) [iE txt j p0 p1 p2 p3 p4 p5] iS0 .none kV doc pm an (.ref cda) ct cc), osl⟩
    | some f => ∃ (a2 q1 q2 q3 q4 : Pos), K.lookup fI = some ⟨oc, od, .func (PySem.W.ksFn "__init__" qual (iA1 f a1 a2) [iE txt j p0 p1 p2 p3 p4 p5, iF f q1 q2 q3 q4] (iS1 f) .none kV doc pm an (.ref cda) ct cc), osl⟩ := by
  unfold initB at h
  split at h
  · rename_i oc od fd osl e
    simp only [Bool.and_eq_true, decide_eq_true_eq] at h
    obtain ⟨⟨⟨⟨⟨⟨⟨h1, h2⟩, h3⟩, h4⟩, h5⟩, h6⟩, h7⟩, h8⟩ := h
    obtain ⟨nm, qn, pr, bd, sc, gl, clo, df, kw, doc, pm, an, cd, ct, bl⟩ := fd
    dsimp only at h1 h2 h3 h4 h5 h6 h7 h8
    subst h1 h2 h3
    split at h4 <;> first | (cases h4; done) | skip
    split at h6 <;> first | (cases h6; done) | skip
    rename_i n cc
    simp only [Bool.and_eq_true, decide_eq_true_eq] at h6
    obtain ⟨rfl, h6⟩ := h6
    split at h6 <;> first | (cases h6; done) | skip
    rename_i cl cld C' csl ecc
    have h6 := of_decide_eq_true h6
    subst h6
    split at h8 <;> first | (cases h8; done) | skip
    rename_i cda
    split at h8 <;> first | (cases h8; done) | skip
    rename_i ccl cdd vs ccs ecd
    split at h8 <;> first | (cases h8; done) | skip
    rename_i file tf evs
    split at h5 <;> first | (cases h5; done) | skip
    rename_i body
    cases fld with
    | none =>
      obtain ⟨txt, j, a1, p0, p1, p2, p3, p4, p5, rfl, rfl, rfl, hl⟩ := errInit0_ok h5
      exact ⟨cc, cda, qn, txt, kw, doc, pm, ct, oc, an, od, osl, j, a1, p0, p1, p2, p3, p4, p5, h7, hl, ⟨_, _, _, ecc⟩, ⟨_, _, _, _, _, _, ecd, evs, h8⟩, e⟩
    | some f =>
      obtain ⟨txt, j, a1, p0, p1, p2, p3, p4, p5, a2, q1, q2, q3, q4, rfl, rfl, rfl, hl⟩ := errInit1_ok h5
      exact ⟨cc, cda, qn, txt, kw, doc, pm, ct, oc, an, od, osl, j, a1, p0, p1, p2, p3, p4, p5, h7, hl, ⟨_, _, _, ecc⟩, ⟨_, _, _, _, _, _, ecd, evs, h8⟩, a2, q1, q2, q3, q4, e⟩
  · cases h
def fldOk (f : Str) : Bool := decide (f = "part") || decide (f = "most") || decide (f = "at") || decide (f = "name")
/-- an error class -/
def errB (P : Program) (K : PySem.W.Frag) (C : Addr) (fld : Option Str) : Bool :=
  PySem.W.keepIn K (.ref C) && decide (PySem.W.subIn K (.ref C) (.type "BaseException") = some true) && decide (PySem.W.typeIn K (.ref C) = some (.type "type")) && excObjB K C &&
  decide (PySem.W.ks_superIn K C C "__init__" = some (some (.builtin "ValueError.__init__"))) && decide (PySem.W.nsIn K cStatics "thirdparty.any" = some none) && decide (PySem.W.mroIn K C (.type "ValueError") = some true) && decide (PySem.W.mroIn K C (.ref C) = some true) &&
  decide (PySem.W.nsIn K mainGlobals "super" = some none) && !(P.main.scope.names.lookup ("super" : Str)).isSome &&
  (match PySem.W.findIn K (.ref C) "__init__" with
    | some (some (.ref fI)) => decide (PySem.W.typeIn K (.ref fI) = some (.type "function")) && initB P K C fld fI
    | _ => false) &&
  (match fld with
    | none => true
    | some f => fldOk f && decide (PySem.W.findIn K (.ref C) "__setattr__" = some (some (.builtin "object.__setattr__"))) && decide (PySem.W.findIn K (.ref C) f = some none))
theorem errB_ok {P : Program} {K : PySem.W.Frag} {C : Addr} {fld : Option Str} {h : Heap} {mg : Str → Option Value} (X : K.In h) (g : h.Ns mainGlobals mg) (e : errB P K C fld = true) : ErrOk P K mg C fld := by
  unfold errB at e
  simp only [Bool.and_eq_true, Bool.not_eq_true', decide_eq_true_eq] at e
  obtain ⟨⟨⟨⟨⟨⟨⟨⟨⟨⟨⟨h1, h2⟩, h3⟩, h4⟩, h5⟩, h6⟩, h7⟩, h8⟩, h9⟩, h10⟩, h11⟩, h12⟩ := e
  split at h11 <;> first | (cases h11; done) | skip
  rename_i fI hI
  simp only [Bool.and_eq_true, decide_eq_true_eq] at h11
  obtain ⟨h13, h14⟩ := h11
  obtain ⟨cc, cda, qual, txt, kV, doc, pm, ct, oc, an, od, osl, j, a1, p0, p1, p2, p3, p4, p5, c1, c2, c3, c4, c5⟩ := initB_ok h14
  refine ⟨h1, h2, h3, fI, cc, cda, ⟨excObjB_ok h4, h5, h6, h7, h8, c4, c3, PySem.W.mg_none_of X g h9, h10, hI, h13⟩, qual, txt, kV, doc, pm, ct, oc, an, od, osl, j, a1, p0, p1, p2, p3, p4, p5, c1, c2, ?_⟩
  cases fld with
  | none => exact c5
  | some f =>
    simp only [Bool.and_eq_true, decide_eq_true_eq] at h12
    obtain ⟨⟨h15, h16⟩, h17⟩ := h12
    obtain ⟨a2, q1, q2, q3, q4, c5⟩ := c5
    refine ⟨?_, h16, h17, a2, q1, q2, q3, q4, c5⟩
    unfold fldOk at h15
    simp only [Bool.or_eq_true, decide_eq_true_eq] at h15
    rcases h15 with ((z | z) | z) | z
    · exact .inl z
    · exact .inr (.inl z)
    · exact .inr (.inr (.inl z))
    · exact .inr (.inr (.inr z))
end Mi
end
section
set_option linter.all false
set_option Elab.async false
set_option maxHeartbeats 4000000
set_option autoImplicit false
namespace Mi
open PySem PySem.Spec PyProof.Rows L2 LamX
open PySem.SVX
/-! ### classes, errors by their look -/
def tyB (K : PySem.W.Frag) (C : Addr) : Bool := decide (PySem.W.findIn K (.ref C) "__class__" = some (some (.builtin "object.__class__"))) && decide (PySem.W.specialIn K (.builtin "object.__class__") "__get__" = some (some (.builtin "getset_descriptor.__get__"))) &&
  decide (PySem.W.takesIn K (.builtin "object.__class__") = some true) && decide (PySem.W.mroIn K C (.type "object") = some true)
theorem tyB_ok {K : PySem.W.Frag} {C : Addr} (h : tyB K C = true) : PySem.W.findIn K (.ref C) "__class__" = some (some (.builtin "object.__class__")) ∧ PySem.W.specialIn K (.builtin "object.__class__") "__get__" = some (some (.builtin "getset_descriptor.__get__")) ∧
    PySem.W.takesIn K (.builtin "object.__class__") = some true ∧ PySem.W.mroIn K C (.type "object") = some true := by
  unfold tyB at h
  simp only [Bool.and_eq_true, decide_eq_true_eq] at h
  exact ⟨h.1.1.1, h.1.1.2, h.1.2, h.2⟩
def gloB (K : PySem.W.Frag) (x : Str) : Bool := He.eqO (PySem.W.nsIn K mainGlobals x) (some (some (.ref (He.ga K x))))
def noatB (s : Sta) (K : PySem.W.Frag) (C : Addr) : Bool := s.names.all fun f => He.eqO (PySem.W.findIn K (.ref C) f) (some none)
def clsB (s : Sta) (K : PySem.W.Frag) (x : Str) : Bool := gloB K x && (He.Fa.cls x).ok K && noatB s K (He.ga K x) && tyB K (He.ga K x) &&
  (["int", "bool", "str", "tuple", "list"].all fun T => decide (PySem.W.kitOne K (.ref (He.ga K x)) (.type T) = some false)) &&
  (["NoneType", "int", "bool", "str", "tuple", "list", "dict"].all fun T => decide (PySem.W.kitOne K (.type T) (.ref (He.ga K x)) = some false)) && (He.Fa.mkr x).ok K
def ownB (s : Sta) (K : PySem.W.Frag) (x : Str) : Bool := He.eqO (PySem.W.findIn K (.ref (He.ga K x)) "__eq__") (some (some (.ref (He.ma K (He.ga K x) "__eq__")))) && PySem.W.isFn K (.ref (He.ma K (He.ga K x) "__eq__")) &&
  He.eqO (PySem.W.findIn K (.ref (He.ga K x)) "__ne__") (some (some (.builtin "object.__ne__"))) && decide (PySem.W.subIn K (.ref (He.ga K x)) (.type "object") = some true) &&
  (["NoneType", "bool", "int", "str", "tuple", "list", "dict"].all fun T => PySem.W.notFirst K (He.ga K x) (.type T)) && s.clss.all fun p => PySem.W.notFirst K (He.ga K x) (.ref (He.ga K p.1))
def kkB (s : Sta) (K : PySem.W.Frag) : Bool := s.clss.all fun p => s.clss.all fun q => decide (PySem.W.kitOne K (.ref (He.ga K q.1)) (.ref (He.ga K p.1)) = some (q.2 == p.2))
def errGB (P : Program) (s : Sta) (K : PySem.W.Frag) (p : Str × (Nat × Option Nat)) : Bool := gloB K p.1 && xfB K (He.ga K p.1) && noatB s K (He.ga K p.1) && tyB K (He.ga K p.1) && (match p.2.2 with
  | none => errB P K (He.ga K p.1) none
  | some kf => (match s.names[kf]? with
    | some f => errB P K (He.ga K p.1) (some f)
    | none => false))
def excV (K : PySem.W.Frag) (s : Sta) (sub : Nat → Nat → Bool) (c : Nat) (u : Value) : Bool := s.errs.all fun p => decide (PySem.W.exmOne K (.ref (He.ga K p.1)) u = some (sub p.2.1 c)) && decide (PySem.W.kitOne K (.ref (He.ga K p.1)) u = some (sub p.2.1 c))
def excB (s : Sta) (sub : Nat → Nat → Bool) (K : PySem.W.Frag) (p : Str × Nat) : Bool :=
  (gloB K p.1 && excV K s sub p.2 (.ref (He.ga K p.1))) || (He.eqO (PySem.W.nsIn K mainGlobals p.1) (some none) && decide (p.1 = Str.ofString "ValueError") && excV K s sub p.2 (.type "ValueError"))
def noListB (K : PySem.W.Frag) : Bool := K.all fun q => match q.2.cls with
  | .type t => !decide (t = "list")
  | _ => true
def staB (P : Program) (s : Sta) (sub : Nat → Nat → Bool) (K : PySem.W.Frag) : Bool :=
  (s.clss.all fun p => clsB s K p.1) && kkB s K && (s.clss.all fun p => !decide (p.2 ∈ s.eqs) || ownB s K p.1) && (s.errs.all fun p => errGB P s K p) && (s.exc.all fun p => excB s sub K p) && noListB K && decide ((s.tf.map fun p => (He.cT K p).2).Nodup)
/-- what does not look at the heap -/
def Sta.okB (s : Sta) (T : Tab) : Bool := decide s.names.Nodup && (s.clss.all fun p => decide (s.ix.lookup p.2 = some p.1)) && (s.errs.all fun p => decide (s.ix.lookup p.2.1 = some p.1)) &&
  (s.errs.all fun p => match T.cl p.2.1 with
    | some cl => decide (cl.ex = some p.2.2.toList)
    | none => false) && (s.clss.all fun p => match T.cl p.2 with
    | some cl => cl.init.isSome && (!cl.eqm.isSome || decide (p.2 ∈ s.eqs))
    | none => false)
section
variable {P : Program} {s : Sta} {sub : Nat → Nat → Bool} {K : PySem.W.Frag} {T : Tab} {dr : List D → List (Nat × Nat) → Prop}
theorem gloB_ok {h : Heap} {mg : Str → Option Value} (X : K.In h) (g : h.Ns mainGlobals mg) {x : Str} (e : gloB K x = true) : mg x = some (.ref (He.ga K x)) := PySem.W.mg_of X g (He.eqO_ok e)
theorem alls {α : Type} {l : List α} {p : α → Bool} (h : l.all p = true) : ∀ x ∈ l, p x = true := List.all_eq_true.mp h
theorem noatB_ok {C : Addr} (h : noatB s K C = true) : ∀ (f : Nat) (n : Str), s.names[f]? = some n → PySem.W.findIn K (.ref C) n = some none := fun f n e => He.eqO_ok (alls h n (List.mem_of_getElem? e))
/-- a class's name, by its number -/
theorem ga_cls (o : s.okB T = true) {c : Nat} {C : Addr} (h : (gOf s dr K).ga c = some C) (hi : (gOf s dr K).isC c = true) : ∃ x, (x, c) ∈ s.clss ∧ C = He.ga K x := by
  have hi : decide (c ∈ s.clss.map (·.2)) = true := hi
  obtain ⟨p, hp, rfl⟩ := List.mem_map.mp (of_decide_eq_true hi)
  unfold Sta.okB at o
  simp only [Bool.and_eq_true] at o
  have e := of_decide_eq_true (alls o.1.1.1.2 p hp)
  have h : (s.ix.lookup p.2).map (He.ga K) = some C := h
  rw [e] at h
  cases h
  exact ⟨p.1, hp, rfl⟩
theorem ga_err (o : s.okB T = true) {c : Nat} {C : Addr} (h : (gOf s dr K).ga c = some C) (hi : (gOf s dr K).isE c = true) : ∃ x fo, (x, (c, fo)) ∈ s.errs ∧ C = He.ga K x := by
  have hi : decide (c ∈ s.errs.map (·.2.1)) = true := hi
  obtain ⟨p, hp, rfl⟩ := List.mem_map.mp (of_decide_eq_true hi)
  unfold Sta.okB at o
  simp only [Bool.and_eq_true] at o
  have e := of_decide_eq_true (alls o.1.1.2 p hp)
  have h : (s.ix.lookup p.2.1).map (He.ga K) = some C := h
  rw [e] at h
  cases h
  exact ⟨p.1, p.2.2, hp, rfl⟩
theorem cls_ga (o : s.okB T = true) {x : Str} {c : Nat} (h : (x, c) ∈ s.clss) : (gOf s dr K).ga c = some (He.ga K x) ∧ (gOf s dr K).isC c = true := by
  unfold Sta.okB at o
  simp only [Bool.and_eq_true] at o
  have e := of_decide_eq_true (alls o.1.1.1.2 _ h)
  refine ⟨?_, decide_eq_true (List.mem_map_of_mem (f := (·.2)) h)⟩
  show (s.ix.lookup c).map (He.ga K) = _
  rw [e] <;> rfl
theorem err_ga (o : s.okB T = true) {x : Str} {c : Nat} {fo : Option Nat} (h : (x, (c, fo)) ∈ s.errs) : (gOf s dr K).ga c = some (He.ga K x) ∧ (gOf s dr K).isE c = true := by
  unfold Sta.okB at o
  simp only [Bool.and_eq_true] at o
  have e := of_decide_eq_true (alls o.1.1.2 _ h)
  refine ⟨?_, decide_eq_true (List.mem_map_of_mem (f := (·.2.1)) h)⟩
  show (s.ix.lookup c).map (He.ga K) = _
  rw [e] <;> rfl
structure StaP (P : Program) (s : Sta) (sub : Nat → Nat → Bool) (K : PySem.W.Frag) : Prop where
  cls : ∀ p ∈ s.clss, clsB s K p.1 = true
  kk : kkB s K = true
  own : ∀ p ∈ s.clss, p.2 ∈ s.eqs → ownB s K p.1 = true
  err : ∀ p ∈ s.errs, errGB P s K p = true
  exc : ∀ p ∈ s.exc, excB s sub K p = true
  nl : noListB K = true
  nd : (s.tf.map fun p => (He.cT K p).2).Nodup
theorem staP (h : staB P s sub K = true) : StaP P s sub K := by
  unfold staB at h
  simp only [Bool.and_eq_true] at h
  obtain ⟨⟨⟨⟨⟨⟨h1, h2⟩, h3⟩, h4⟩, h5⟩, h6⟩, h7⟩ := h
  refine ⟨alls h1, h2, fun p hp e => ?_, alls h4, alls h5, h6, of_decide_eq_true h7⟩
  have z := alls h3 p hp
  rcases Bool.or_eq_true_iff.mp z with z | z
  · simp at z; exact absurd e z
  · exact z
theorem clsP {x : Str} (h : clsB s K x = true) : gloB K x = true ∧ Cls K (He.ga K x) ∧ noatB s K (He.ga K x) = true ∧ tyB K (He.ga K x) = true ∧ (∀ T ∈ ["int", "bool", "str", "tuple", "list"], PySem.W.kitOne K (.ref (He.ga K x)) (.type T) = some false) ∧
    (∀ T ∈ ["NoneType", "int", "bool", "str", "tuple", "list", "dict"], PySem.W.kitOne K (.type T) (.ref (He.ga K x)) = some false) ∧ Mk K (He.ga K x) (He.ma K (He.ga K x) "__init__") := by
  unfold clsB at h
  simp only [Bool.and_eq_true] at h
  obtain ⟨⟨⟨⟨⟨⟨h1, h2⟩, h3⟩, h4⟩, h5⟩, h6⟩, h7⟩ := h
  exact ⟨h1, He.cls_ok h2, h3, h4, fun T m => of_decide_eq_true (alls h5 T m), fun T m => of_decide_eq_true (alls h6 T m), He.mkr_ok h7⟩
theorem clsOk_of (o : s.okB T = true) (h : StaP P s sub K) : ClsOk (gOf s dr K) where
  cls := fun c C a b => by
    obtain ⟨x, hx, rfl⟩ := ga_cls o a b
    exact (clsP (h.cls _ hx)).2.1
  noat := fun c C a b k n e => by
    obtain ⟨x, hx, rfl⟩ := ga_cls o a b
    exact noatB_ok (clsP (h.cls _ hx)).2.2.1 k n e
  nd := by
    unfold Sta.okB at o
    simp only [Bool.and_eq_true] at o
    exact of_decide_eq_true o.1.1.1.1
  ty := fun c C a b => by
    obtain ⟨x, hx, rfl⟩ := ga_cls o a b
    exact tyB_ok (clsP (h.cls _ hx)).2.2.2.1
  kt := fun c C a b T m => by
    obtain ⟨x, hx, rfl⟩ := ga_cls o a b
    exact (clsP (h.cls _ hx)).2.2.2.2.1 T m
  ko := fun c C a b T m => by
    obtain ⟨x, hx, rfl⟩ := ga_cls o a b
    exact (clsP (h.cls _ hx)).2.2.2.2.2.1 T m
  kk := fun c C c' C' a b a' b' => by
    obtain ⟨x, hx, rfl⟩ := ga_cls o a b
    obtain ⟨y, hy, rfl⟩ := ga_cls o a' b'
    exact of_decide_eq_true (alls (alls h.kk _ hx) _ hy)
theorem errP {p : Str × (Nat × Option Nat)} (h : errGB P s K p = true) : gloB K p.1 = true ∧ XfC K (He.ga K p.1) ∧ noatB s K (He.ga K p.1) = true ∧ tyB K (He.ga K p.1) = true ∧ (p.2.2 = none → errB P K (He.ga K p.1) none = true) ∧ (∀ kf, p.2.2 = some kf → ∃ f, s.names[kf]? = some f ∧ errB P K (He.ga K p.1) (some f) = true) := by
  unfold errGB at h
  simp only [Bool.and_eq_true] at h
  obtain ⟨⟨⟨⟨h1, h2⟩, h3⟩, h4⟩, h5⟩ := h
  refine ⟨h1, xfB_ok h2, h3, h4, fun e => ?_, fun kf e => ?_⟩
  · rw [e] at h5; exact h5
  · rw [e] at h5
    simp only at h5
    split at h5
    · exact ⟨_, by assumption, h5⟩
    · cases h5
theorem errG_of (o : s.okB T = true) (h : StaP P s sub K) : ErrG (gOf s dr K) where
  xf := fun c C a b => by
    obtain ⟨x, fo, hx, rfl⟩ := ga_err o a b
    exact (errP (h.err _ hx)).2.1
  no := fun c C a b k n e => by
    obtain ⟨x, fo, hx, rfl⟩ := ga_err o a b
    exact noatB_ok (errP (h.err _ hx)).2.2.1 k n e
  cl := fun c C a b => by
    obtain ⟨x, fo, hx, rfl⟩ := ga_err o a b
    exact tyB_ok (errP (h.err _ hx)).2.2.2.1
theorem excP (o : s.okB T = true) (h : StaP P s T.sub K) {hp : Heap} {mg : Str → Option Value} (X : K.In hp) (g : hp.Ns mainGlobals mg) {x : Str} {c : Nat} (e : (x, c) ∈ s.exc) : ∃ v u, ClsV v u ∧ (mg x = some u ∨ (mg x = none ∧ bootBuiltins x = some u ∧ x ≠ "__name__")) ∧
    (∀ k C, (gOf s dr K).ga k = some C → (gOf s dr K).isE k = true → PySem.W.exmOne K (.ref C) u = some (T.sub k c)) ∧ ∀ k C, (gOf s dr K).ga k = some C → (gOf s dr K).isE k = true → PySem.W.kitOne (gOf s dr K).K (.ref C) u = some (T.sub k c) := by
  have z := h.exc _ e
  have core : ∀ u, excV K s T.sub c u = true → (∀ k C, (gOf s dr K).ga k = some C → (gOf s dr K).isE k = true → PySem.W.exmOne K (.ref C) u = some (T.sub k c)) ∧ ∀ k C, (gOf s dr K).ga k = some C → (gOf s dr K).isE k = true → PySem.W.kitOne (gOf s dr K).K (.ref C) u = some (T.sub k c) := fun u hu => by
    refine ⟨fun k C a b => ?_, fun k C a b => ?_⟩
    · obtain ⟨y, fo, hy, rfl⟩ := ga_err o a b
      have q := alls hu _ hy
      simp only [Bool.and_eq_true, decide_eq_true_eq] at q
      exact q.1
    · obtain ⟨y, fo, hy, rfl⟩ := ga_err o a b
      have q := alls hu _ hy
      simp only [Bool.and_eq_true, decide_eq_true_eq] at q
      exact q.2
  unfold excB at z
  rcases Bool.or_eq_true_iff.mp z with z | z
  · obtain ⟨z1, z2⟩ := band z
    exact ⟨_, _, .own _, .inl (gloB_ok X g z1), core _ z2⟩
  · simp only [Bool.and_eq_true, decide_eq_true_eq] at z
    obtain ⟨⟨z1, z2⟩, z3⟩ := z
    subst z2
    exact ⟨_, _, .ty "ValueError", .inr ⟨PySem.W.mg_none_of X g (He.eqO_ok z1), by decide +kernel, by decide +kernel⟩, core _ z3⟩
theorem ownP' (o : s.okB T = true) (h : StaP P s sub K) {x : Str} {c : Nat} (e : (x, c) ∈ s.clss) (q : c ∈ s.eqs) : OwnQ (gOf s dr K) (He.ga K x) (He.ma K (He.ga K x) "__eq__") := by
  have z := h.own _ e q
  unfold ownB at z
  simp only [Bool.and_eq_true, decide_eq_true_eq] at z
  obtain ⟨⟨⟨⟨⟨z1, z2⟩, z3⟩, z4⟩, z5⟩, z6⟩ := z
  exact ⟨He.eqO_ok z1, z2, He.eqO_ok z3, z4, fun T m => alls z5 T m, fun c' C' a b => by
    obtain ⟨y, hy, rfl⟩ := ga_cls o a b
    exact alls z6 _ hy⟩
theorem noList_ok (h : noListB K = true) : ∀ b o, K.lookup b = some o → o.cls ≠ .type "list" := fun b o e z => by
  have q := alls h _ (He.lookup_mem e)
  simp only [z] at q
  cases q
end
end Mi
end
section
set_option linter.all false
set_option Elab.async false
set_option maxHeartbeats 4000000
set_option autoImplicit false
namespace Mi
open PySem PySem.Spec PyProof.Rows L2 LamX
open PySem.SVX
/-- a def, by its text and its word -/
structure DefS where
  d : He.DefD
  ix : Nat
  N : List Str
  ps : List Str
  lam : Option Nat := none
def DefS.lm (D : DefS) : Option (Nat × Str) := D.lam.map fun j => (j, (D.d.qual ++ ".<locals>.") ++ "<lambda>")
def DefS.bind (D : DefS) : Prop := ∀ (kV doc pm : Value) (an : Option Addr) (cdv ct : Value) (us : List Value), us.length = D.ps.length → bindArgs (PySem.W.fnOf D.d.name D.d.qual D.d.params D.d.body D.d.scope .none kV doc pm an cdv ct) ⟨us, []⟩ = pure (D.ps.zip us)
/-- what is looked at of a def alone -/
structure DefT (pg : Pg) (T : Tab) (s : Sta) (D : DefS) : Prop where
  sc : FnScope D.N D.ps D.d.scope
  bd : D.bind
  dfl : D.d.dfl = []
  lam : ∀ j, D.lam = some j → s.tf[j]? = some D.d.at_
  fn : ∃ g, T.fn D.ix = some g ∧ T.nat D.ix = none ∧ D.N.length = g.ns ∧ D.ps.length = g.np ∧ chkB ⟨pg, D.N, D.d.scope, fun _ => true, false, none, D.lm⟩ g.body D.d.body = true
structure ThkT (pg : Pg) (T : Tab) (D : DefS) (a : Str) : Prop where
  sc : FnScope D.N [a] D.d.scope
  bd : ∀ (kV doc pm : Value) (an : Option Addr) (cdv ct : Value) (us : List Value), us.length = 1 → bindArgs (PySem.W.fnOf D.d.name D.d.qual D.d.params D.d.body D.d.scope .none kV doc pm an cdv ct) ⟨us, []⟩ = pure ([a].zip us)
  dfl : D.d.dfl = []
  da : (a == ("__debug__" : Str)) = false
  ca : (a == ("__classdict__" : Str)) = false
  nq : D.d.name = D.d.qual ∧ D.d.at_ = (D.d.name, none)
  fn : ∃ g, T.fn D.ix = some g ∧ T.nat D.ix = none ∧ D.N.length = g.ns ∧ g.np = 0 ∧ chkK ⟨pg, D.N, D.d.scope, fun _ => true, false, none, none⟩ a g.body D.d.body = true
/-- the function's object, as the head tells it -/
abbrev FunK (K : PySem.W.Frag) (D : DefS) (fd : FuncData) : Prop := FunD K D.d.name D.d.qual D.d.params D.d.body D.d.scope (D.d.dvs K) (D.d.kws K) (He.fAd K D.d.at_) fd
section
variable {pg : Pg} {T : Tab} {s : Sta} {wf : Nat} {P : Program} {w : World} {K : PySem.W.Frag} {mg : Str → Option Value} {base : Heap} {dr : List D → List (Nat × Nat) → Prop}
theorem FunK.binds {D : DefS} {fd : FuncData} {ps : List Str} (F : FunK K D fd) (hd : D.d.dfl = []) (hb : ∀ (kV doc pm : Value) (an : Option Addr) (cdv ct : Value) (us : List Value), us.length = ps.length → bindArgs (PySem.W.fnOf D.d.name D.d.qual D.d.params D.d.body D.d.scope .none kV doc pm an cdv ct) ⟨us, []⟩ = pure (ps.zip us)) : Binds K fd ps [] := by
  have e : D.d.dvs K = [] := by unfold He.DefD.dvs; rw [hd]; rfl
  have F2 : FunD K D.d.name D.d.qual D.d.params D.d.body D.d.scope [] (D.d.kws K) (He.fAd K D.d.at_) fd := by rw [← e]; exact F
  exact F2.bindsN hb
theorem FunK.bindsTo {D : DefS} {fd : FuncData} {ps : List Str} (F : FunK K D fd) (hd : D.d.dfl = []) (hb : ∀ (kV doc pm : Value) (an : Option Addr) (cdv ct : Value) (us : List Value), us.length = ps.length → bindArgs (PySem.W.fnOf D.d.name D.d.qual D.d.params D.d.body D.d.scope .none kV doc pm an cdv ct) ⟨us, []⟩ = pure (ps.zip us)) (st : Shared) (us : List Value) (hl : us.length = ps.length) : BindsTo st fd ⟨us, []⟩ (ps.zip us) := by
  have e : D.d.dvs K = [] := by unfold He.DefD.dvs; rw [hd]; rfl
  have F2 : FunD K D.d.name D.d.qual D.d.params D.d.body D.d.scope [] (D.d.kws K) (He.fAd K D.d.at_) fd := by rw [← e]; exact F
  exact F2.bindsA hb st us hl
/-- the tables of the defs with lambdas, over the base -/
def TabsB (s : Sta) (K : PySem.W.Frag) (mg : Str → Option Value) (base : Heap) : Prop := ∀ p ∈ s.tf, TabB base mg (He.cT K p).1 (He.cT K p).2
theorem promT (t : PgT pg T K mg) (tb : TabsB s K mg base) {D : DefS} {fd : FuncData} (F : FunK K D fd) (h : DefT pg T s D) : Prom pg T wf (gOf s dr K) P w K mg base D.ix (He.fAd K D.d.at_) fd D.ps := by
  obtain ⟨oc, od, dV, kV, doc, pm, an, cdv, ct, osl, rfl, lk, hcd, _, _⟩ := F.ex
  obtain ⟨g, h1, h2, h3, h4, h5⟩ := h.fn
  refine prom_def rfl rfl t lk hcd h.sc h1 h2 h3 h4 (lam := D.lm) (fun j q e => ?_) h5
  unfold DefS.lm at e
  cases hl : D.lam with
  | none => rw [hl] at e; cases e
  | some j' =>
    rw [hl] at e
    cases e
    have ht := h.lam j hl
    refine ⟨rfl, (He.cT K D.d.at_).1, ?_, ?_⟩
    · have q := tb _ (List.mem_of_getElem? ht)
      have e2 : (gOf s dr K).tp j = (He.cT K D.d.at_).2 := by
        show (match s.tf[j]? with | some p => (He.cT K p).2 | none => 0) = _
        rw [ht]
      rw [e2]
      exact q
    · obtain ⟨c, hc⟩ := He.codeIn_ref hcd
      rw [hc]
      have := He.codeOf_eq lk (c := c) hc
      show Value.ref c = Value.ref (He.codeOf K D.d.at_)
      rw [this]
/-- the defs that get a lambda, by their looks -/
theorem pgT_of {h : Heap} (X : K.In h) (g : h.Ns mainGlobals mg) (ts : List (DefS × Str)) (H1 : ∀ p ∈ ts, ThkT pg T p.1 p.2 ∧ ∃ fd, FunK K p.1 fd) (H2 : ∀ x fid, pg.thk.lookup x = some fid → ∃ p ∈ ts, p.1.ix = fid ∧ p.1.d.name = x ∧ gloB K x = true) : PgT pg T K mg := by
  intro x fid hx
  obtain ⟨⟨D, a⟩, hp, rfl, rfl, hg⟩ := H2 x fid hx
  obtain ⟨t, fd, F⟩ := H1 _ hp
  have hb : Binds K fd [a] [] := F.binds t.dfl t.bd
  have kp := F.kp
  obtain ⟨oc, od, dV, kV, doc, pm, an, cdv, ct, osl, rfl, lk, hcd, _, _⟩ := F.ex
  obtain ⟨gf, h1, h2, h3, h4, h5⟩ := t.fn
  obtain ⟨n1, n2⟩ := t.nq
  dsimp only at n1 n2 lk hcd kp hb
  have ea : He.fAd K D.d.at_ = He.ga K D.d.name := by rw [n2]; rfl
  rw [← n1] at lk hcd hb
  rw [ea] at lk kp
  exact ⟨a, He.ga K D.d.name, D.d.params, D.d.body, D.d.scope, dV, kV, doc, pm, cdv, ct, oc, an, od, osl, D.N, gf, gloB_ok X g hg, kp, lk, hcd, hb, t.sc, h1, h2, h3, h4, t.da, t.ca, h5⟩
/-- the program, by what the head tells -/
theorem pgS_of (o : s.okB T = true) (hS : StaP P s T.sub K) {h : Heap} (X : K.In h) (g : h.Ns mainGlobals mg) (e1 : pg.names = s.names) (e2 : pg.ers = s.errs) (e3 : pg.exc = s.exc) (e4 : pg.cls = s.clss)
    (fr : ∀ x ∈ pg.free, mg x = none) (ks : ∀ x i, pg.ks.lookup x = some i → ∃ t, mg x = some (.int i t))
    (ds : List DefS) (H1 : ∀ D ∈ ds, D.d.dfl = [] ∧ D.bind ∧ ∃ fd, FunK K D fd ∧ Prom pg T wf (gOf s dr K) P w K mg base D.ix (He.fAd K D.d.at_) fd D.ps)
    (H2 : ∀ x i, pg.fns.lookup x = some i → gloB K x = true ∧ ∃ D ∈ ds, D.ix = i ∧ D.d.at_ = (x, none))
    (H3 : ∀ p ∈ s.clss, ∀ cl fi, T.cl p.2 = some cl → cl.init = some fi → ∃ D ∈ ds, D.ix = fi ∧ D.d.at_ = (p.1, some ("__init__" : Str)))
    (H4 : ∀ p ∈ s.clss, ∀ cl fi, T.cl p.2 = some cl → cl.eqm = some fi → ∃ D ∈ ds, D.ix = fi ∧ D.d.at_ = (p.1, some ("__eq__" : Str)) ∧ D.ps.length = 2) : PgS pg T wf (gOf s dr K) P w K mg base where
  h0 := rfl
  hK := rfl
  C := clsOk_of o hS
  nm := e1.symm
  eg := errG_of o hS
  fr := fr
  ks := ks
  fn := fun x i hx => by
    obtain ⟨hg, D, hD, rfl, ea⟩ := H2 x i hx
    obtain ⟨hd, hb, fd, F, pr⟩ := H1 D hD
    have e : He.fAd K D.d.at_ = He.ga K x := by rw [ea]; rfl
    exact ⟨_, fd, D.ps, by rw [e]; exact gloB_ok X g hg, F.kp, F.binds hd hb, pr⟩
  cl := fun x c hx => by
    have hm : (x, c) ∈ s.clss := by rw [e4] at hx; exact PySem.mem_of_lookup hx
    have oo := o
    unfold Sta.okB at oo
    simp only [Bool.and_eq_true] at oo
    have q := alls oo.2 _ hm
    simp only at q
    split at q
    · rename_i cl hcl
      obtain ⟨q1, q2⟩ := band q
      obtain ⟨fi, hfi⟩ := Option.isSome_iff_exists.mp q1
      obtain ⟨D, hD, rfl, ea⟩ := H3 _ hm cl fi hcl hfi
      obtain ⟨hd, hb, fd, F, pr⟩ := H1 D hD
      have e : He.fAd K D.d.at_ = He.ma K (He.ga K x) "__init__" := by rw [ea]; rfl
      have c := clsP (hS.cls _ hm)
      rw [e] at pr
      exact ⟨He.ga K x, cl, D.ix, _, fd, D.ps, gloB_ok X g c.1, cls_ga o hm, hcl, hfi, c.2.2.2.2.2.2, F.binds hd hb, pr⟩
    · cases q
  own := fun c C a b gi e => by
    obtain ⟨x, hx, rfl⟩ := ga_cls o a b
    cases hcl : T.cl c with
    | none => rw [hcl] at e; cases e
    | some cl =>
      rw [hcl] at e
      have e : cl.eqm = some gi := e
      obtain ⟨D, hD, rfl, ea, hl⟩ := H4 _ hx cl gi hcl e
      obtain ⟨hd, hb, fd, F, pr⟩ := H1 D hD
      have ee : He.fAd K D.d.at_ = He.ma K (He.ga K x) "__eq__" := by rw [ea]; rfl
      rw [ee] at pr
      have oo := o
      unfold Sta.okB at oo
      simp only [Bool.and_eq_true] at oo
      have q := alls oo.2 _ hx
      simp only [hcl] at q
      obtain ⟨q1, q2⟩ := band q
      have q3 : c ∈ s.eqs := by
        rcases Bool.or_eq_true_iff.mp q2 with z | z
        · rw [e] at z; simp at z
        · exact of_decide_eq_true z
      exact ⟨_, fd, D.ps, ownP' o hS hx q3, F.binds hd hb, hl, pr⟩
  er := fun x c fo hx => by
    have hm : (x, (c, fo)) ∈ s.errs := by rw [e2] at hx; exact PySem.mem_of_lookup hx
    have q := errP (hS.err _ hm)
    have oo := o
    unfold Sta.okB at oo
    simp only [Bool.and_eq_true] at oo
    have z := alls oo.1.2 _ hm
    simp only at z
    split at z
    · rename_i cl hcl
      refine ⟨He.ga K x, cl, gloB_ok X g q.1, err_ga o hm, hcl, of_decide_eq_true z, fun kf ek => ?_, fun ek => errB_ok X g (q.2.2.2.2.1 ek)⟩
      obtain ⟨f, hf, hq⟩ := q.2.2.2.2.2 kf ek
      exact ⟨f, by rw [e1]; exact hf, errB_ok X g hq⟩
    · cases z
  exc := fun x c hx => excP o hS X g (by rw [e3] at hx; exact PySem.mem_of_lookup hx)
end
end Mi
end
section
set_option linter.all false
set_option Elab.async false
set_option maxHeartbeats 4000000
set_option autoImplicit false
namespace Mi
open PySem PySem.Spec PyProof.Rows L2 LamX
open PySem.SVX
/-! ### a law's end -/
/-- the names that the head tells of -/
def faOf (pg : Pg) : List He.Fa := (pg.fns ++ pg.thk).map (fun p => He.Fa.glo p.1) ++ pg.free.map He.Fa.free ++ pg.ks.map fun p => He.Fa.int p.1 p.2
def fnOfs (dss : List DefS) (tss : List (DefS × Str)) : List He.DefD := dss.map (·.d) ++ tss.map fun p => p.1.d
/-- what a law's own text shows by looks -/
structure LawT (pg : Pg) (T : Tab) (s : Sta) (dss : List DefS) (tss : List (DefS × Str)) : Prop where
  ok : s.okB T = true
  e1 : pg.names = s.names
  e2 : pg.ers = s.errs
  e3 : pg.exc = s.exc
  e4 : pg.cls = s.clss
  df : ∀ D ∈ dss, D.d.dfl = [] ∧ D.bind
  tk : ∀ p ∈ tss, ThkT pg T p.1 p.2
  h2 : ∀ x i, pg.fns.lookup x = some i → ∃ D ∈ dss, D.ix = i ∧ D.d.at_ = (x, none)
  h3 : ∀ p ∈ s.clss, ∀ cl fi, T.cl p.2 = some cl → cl.init = some fi → ∃ D ∈ dss, D.ix = fi ∧ D.d.at_ = (p.1, some ("__init__" : Str))
  h4 : ∀ p ∈ s.clss, ∀ cl fi, T.cl p.2 = some cl → cl.eqm = some fi → ∃ D ∈ dss, D.ix = fi ∧ D.d.at_ = (p.1, some ("__eq__" : Str)) ∧ D.ps.length = 2
  ht : ∀ x fid, pg.thk.lookup x = some fid → ∃ p ∈ tss, p.1.ix = fid ∧ p.1.d.name = x
def h2B (pg : Pg) (dss : List DefS) : Bool := pg.fns.all fun q => dss.any fun D => decide (D.ix = q.2) && decide (D.d.at_ = (q.1, none))
def h3B (s : Sta) (T : Tab) (dss : List DefS) : Bool := s.clss.all fun p => match T.cl p.2 with
  | some cl => (match cl.init with
    | some fi => dss.any fun D => decide (D.ix = fi) && decide (D.d.at_ = (p.1, some ("__init__" : Str)))
    | none => true) && (match cl.eqm with
    | some fi => dss.any fun D => decide (D.ix = fi) && decide (D.d.at_ = (p.1, some ("__eq__" : Str))) && decide (D.ps.length = 2)
    | none => true)
  | none => true
def htB (pg : Pg) (tss : List (DefS × Str)) : Bool := pg.thk.all fun q => tss.any fun p => decide (p.1.ix = q.2) && decide (p.1.d.name = q.1)
theorem lawT_of {pg : Pg} {T : Tab} {s : Sta} {dss : List DefS} {tss : List (DefS × Str)} (ok : s.okB T = true) (e1 : pg.names = s.names) (e2 : pg.ers = s.errs) (e3 : pg.exc = s.exc) (e4 : pg.cls = s.clss) (df : ∀ D ∈ dss, D.d.dfl = [] ∧ D.bind) (tk : ∀ p ∈ tss, ThkT pg T p.1 p.2)
    (b2 : h2B pg dss = true) (b3 : h3B s T dss = true) (bt : htB pg tss = true) : LawT pg T s dss tss where
  ok := ok
  e1 := e1
  e2 := e2
  e3 := e3
  e4 := e4
  df := df
  tk := tk
  h2 := fun x i h => by
    obtain ⟨D, hD, q⟩ := List.any_eq_true.mp (alls b2 _ (PySem.mem_of_lookup h))
    obtain ⟨q1, q2⟩ := band q
    exact ⟨D, hD, of_decide_eq_true q1, of_decide_eq_true q2⟩
  h3 := fun p hp cl fi hc hi => by
    have q := alls b3 p hp
    simp only [hc, hi] at q
    obtain ⟨D, hD, q⟩ := List.any_eq_true.mp (band q).1
    obtain ⟨q1, q2⟩ := band q
    exact ⟨D, hD, of_decide_eq_true q1, of_decide_eq_true q2⟩
  h4 := fun p hp cl fi hc hi => by
    have q := alls b3 p hp
    simp only [hc, hi] at q
    obtain ⟨D, hD, q⟩ := List.any_eq_true.mp (band q).2
    obtain ⟨q1, q3⟩ := band q
    obtain ⟨q1, q2⟩ := band q1
    exact ⟨D, hD, of_decide_eq_true q1, of_decide_eq_true q2, of_decide_eq_true q3⟩
  ht := fun x fid h => by
    obtain ⟨p, hp, q⟩ := List.any_eq_true.mp (alls bt _ (PySem.mem_of_lookup h))
    obtain ⟨q1, q2⟩ := band q
    exact ⟨p, hp, of_decide_eq_true q1, of_decide_eq_true q2⟩
/-- the store at the law's call -/
def store0 (qs : List Str) : List Ob := qs.map Ob.tab
section
variable {pg : Pg} {T : Tab} {s : Sta} {dss : List DefS} {tss : List (DefS × Str)} {P : Program} {K : PySem.W.Frag} {mg : Str → Option Value} {base h : Heap} {w : World} {dr : List D → List (Nat × Nat) → Prop}
/-! ### what the head tells: the names' reach and the statics' table -/
def asL (g : Addr → Option Obj) : List Addr := cStatics :: He.asD g 6
def fragL (g : Addr → Option Obj) : PySem.W.Frag := He.frT g (asL g)
def lookL (fa : List He.Fa) (fn : List He.DefD) (tf : List He.Defn) (ex : PySem.W.Frag → Bool) (g : Addr → Option Obj) (K : PySem.W.Frag) : He.AlX := (He.obsT fa fn [] K, ex K && He.tabsB g tf K)
theorem saysL {fa : List He.Fa} {fn : List He.DefD} {tf : List He.Defn} {ex : PySem.W.Frag → Bool} {w : World} {h : Heap} {l : List Addr} {K : PySem.W.Frag} (hK : K = He.frT h.get? l) (e : lookL fa fn tf ex h.get? K = He.valX fn [] w) : He.SaysX fa fn [] tf ex w h K := by
  have e2 : (ex K && He.tabsB h.get? tf K) = true := congrArg Prod.snd e
  rw [Bool.and_eq_true] at e2
  have tb : ∀ p ∈ tf, PySem.W.codeHdIn K (He.cT K p).1 (He.cT K p).2 = true ∧ ∃ o, h.get? (He.cT K p).2 = some o ∧ He.emptyTab o = true := by
    intro p hp
    have z := List.all_eq_true.mp e2.2 p hp
    rw [Bool.and_eq_true] at z
    refine ⟨z.1, ?_⟩
    have z2 := z.2
    split at z2
    · rename_i o y
      exact ⟨o, y, z2⟩
    · cases z2
  refine ⟨congrArg Prod.fst e, e2.1, fun p hp => (tb p hp).1, fun p hp => ?_, fun p hp => ?_⟩
  · obtain ⟨_, o, y, z⟩ := tb p hp
    subst hK
    exact He.frT_none y z
  · obtain ⟨_, o, y, z⟩ := tb p hp
    rw [y, He.emptyTab_eq z]
def hookL (fa : List He.Fa) (fn : List He.DefD) (tf : List He.Defn) (ex : PySem.W.Frag → Bool) : PySem.W.Hook where
  α := He.AlX
  obs := fun s => lookL fa fn tf ex s.heap.get? (fragL s.heap.get?)
  val := fun w => He.valX fn [] w
  says := fun w h => ∃ K : PySem.W.Frag, K.In h ∧ He.SaysX fa fn [] tf ex w h K
  of := fun _ _ e => ⟨_, He.frT_in, saysL rfl e⟩
  keeps := fun _ _ _ ⟨K, a, c⟩ k => ⟨K, PySem.W.Frag.In.keeps a k, ⟨c.t, c.more, c.hd, c.out, fun p hp => k _ _ (c.empty p hp)⟩⟩
def obL (fa : List He.Fa) (fn : List He.DefD) (tf : List He.Defn) (ex : PySem.W.Frag → Bool) (g : Addr → Option Obj) : He.AlX := lookL fa fn tf ex g (fragL g)
theorem obL_eq {fa : List He.Fa} {fn : List He.DefD} {tf : List He.Defn} {ex : PySem.W.Frag → Bool} {g : Addr → Option Obj} {s : Shared} (h : ∀ a, g a = s.heap.get? a) : obL fa fn tf ex g = (hookL fa fn tf ex).obs s := by
  cases (funext h : g = s.heap.get?)
  rfl
abbrev Says (pg : Pg) (T : Tab) (s : Sta) (dss : List DefS) (tss : List (DefS × Str)) (P : Program) (w : World) (h : Heap) (K : PySem.W.Frag) : Prop := He.SaysX (faOf pg) (fnOfs dss tss) [] s.tf (staB P s T.sub) w h K
theorem says_glo (c : Says pg T s dss tss P w h K) {x : Str} {i : Nat} (hx : (x, i) ∈ pg.fns ++ pg.thk) : gloB K x = true :=
  c.t.d.facts (f := He.Fa.glo x) (List.mem_append_left _ (List.mem_append_left _ (List.mem_map.mpr ⟨(x, i), hx, rfl⟩)))
theorem says_def (c : Says pg T s dss tss P w h K) {D : DefS} (hD : D ∈ dss) : ∃ fd, FunK K D fd := c.t.d.defs (List.mem_append_left _ (List.mem_map_of_mem (f := fun D : DefS => D.d) hD))
theorem says_thk (c : Says pg T s dss tss P w h K) {p : DefS × Str} (hp : p ∈ tss) : ∃ fd, FunK K p.1 fd := c.t.d.defs (List.mem_append_right _ (List.mem_map_of_mem (f := fun p : DefS × Str => p.1.d) hp))
/-- the program at a base -/
theorem says_pgS (L : LawT pg T s dss tss) (c : Says pg T s dss tss P w h K) (X : K.In base) (g : base.Ns mainGlobals mg) {wf : Nat}
    (pr : ∀ D ∈ dss, ∀ fd, FunK K D fd → Prom pg T wf (gOf s dr K) P w K mg base D.ix (He.fAd K D.d.at_) fd D.ps) : PgS pg T wf (gOf s dr K) P w K mg base :=
  pgS_of L.ok (staP c.more) X g L.e1 L.e2 L.e3 L.e4
    (fun x hx => He.free_ok X g (c.t.d.facts (List.mem_append_left _ (List.mem_append_right _ (List.mem_map_of_mem hx)))))
    (fun x i hx => He.int_ok X g (c.t.d.facts (List.mem_append_right _ (List.mem_map_of_mem (f := fun p => He.Fa.int p.1 p.2) (PySem.mem_of_lookup hx)))))
    dss (fun D hD => by
      obtain ⟨fd, F⟩ := says_def c hD
      exact ⟨(L.df D hD).1, (L.df D hD).2, fd, F, pr D hD fd F⟩)
    (fun x i hx => ⟨says_glo c (List.mem_append_left _ (PySem.mem_of_lookup hx)), L.h2 x i hx⟩) L.h3 L.h4
theorem says_pgT (L : LawT pg T s dss tss) (c : Says pg T s dss tss P w h K) (X : K.In base) (g : base.Ns mainGlobals mg) : PgT pg T K mg :=
  pgT_of X g tss (fun p hp => ⟨L.tk p hp, says_thk c hp⟩) fun x fid hx => by
    obtain ⟨p, hp, e1, e2⟩ := L.ht x fid hx
    exact ⟨p, hp, e1, e2, says_glo c (List.mem_append_right _ (PySem.mem_of_lookup hx))⟩
theorem lst_rds {G : Gx} {zs : List Addr} {H : Hp} (ns : List Int) : RDs G zs H (ns.map D.int) (ns.map V.int) := by
  induction ns with
  | nil => exact .nil
  | cons n ns ih => exact .cons (.int n) ih
/-- the law's promise at its start -/
theorem start_sp {qs : List Str} (hq : qs.length = s.tf.length) (nd : (s.tf.map fun p => (He.cT K p).2).Nodup) {f : List W → List Ob → R Val} {a : Addr} {vs : List Value} {ns : List Int} (ha : a ∉ (s.tf.map (He.cT K)).map (·.2))
    (hl : ∃ o', f [.d (.lst (ns.map D.int))] (store0 qs) = .ok (.w (.d (.bl true))) o') :
    spM (gOf s dr K) f 1 [.ref a] (startH ((s.tf.map (He.cT K)).map (·.2)) a true vs ns) (fun v _ => v = .bl true) (fun _ _ _ => False) := by
  obtain ⟨o', e⟩ := hl
  have nd' : ((s.tf.map (He.cT K)).map (·.2)).Nodup := by rw [List.map_map]; exact nd
  refine ⟨rfl, [], (s.tf.map (He.cT K)).map (·.2), store0 qs, [.d (.lst (ns.map D.int))], ⟨fun _ m => m, nd', ?_, fun b m => ?_, fun n u b e1 e2 => ?_, fun b m => (by cases m), fun e he => (by cases he)⟩, .cons ?_ .nil, ?_⟩
  · simp [store0, hq]
  · rw [startH_tab m]; trivial
  · unfold store0 at e1
    rw [List.getElem?_map] at e1
    cases z : qs[n]? with
    | none => rw [z] at e1; cases e1
    | some q =>
      rw [z] at e1
      cases e1
      refine ⟨?_, TabS.nil (startH_tab (mem_of_get e2))⟩
      rw [List.getElem?_map, List.getElem?_map] at e2
      show b = (match s.tf[n]? with | some p => (He.cT K p).2 | none => 0)
      cases y : s.tf[n]? with
      | none => rw [y] at e2; cases e2
      | some p => rw [y] at e2; cases e2; rfl
  · exact .lst (.inr ⟨_, startH_a ha⟩) ⟨ha, fun m => (by cases m)⟩ (lst_rds ns)
  · rw [e]
    intro v H' hp
    obtain ⟨ρ', _, _, _, r⟩ := hp
    cases r
    rfl
/-- a law, by its word -/
theorem law_F {l : PySem.W.OpenLaw} (hP : l.prog = P) (L : LawT pg T s dss tss) {wf d : Nat} {lw : DefS} (hlw : lw ∈ dss) (hx : lw.ps = [("script" : Str)]) (hat : lw.d.at_ = (("law" : Str), none)) (hlf : (("law" : Str), lw.ix) ∈ pg.fns) {qs : List Str} (hq : qs.length = s.tf.length) {n : Nat}
    (pr : ∀ (w : World) (h : Heap) (K : PySem.W.Frag), Says pg T s dss tss P w h K → ∀ (mg : Str → Option Value) (base : Heap), K.In base → base.Ns mainGlobals mg → TabsB s K mg base → ∀ D ∈ dss, ∀ fd, FunK K D fd → Prom pg T wf (gOf s dr K) P w K mg base D.ix (He.fAd K D.d.at_) fd D.ps)
    (law : ∀ ns : List Int, ns.length ≤ n → (∀ z ∈ ns, Builtin.Int.intBits z ≤ 1048576) → ∃ o', run T wf (d + 1) lw.ix none [.d (.lst (ns.map D.int))] (store0 qs) = .ok (.w (.d (.bl true))) o')
    (w : World) (mg : Str → Option Value) (fa : Addr) (h : Heap) (Y : (hookL (faOf pg) (fnOfs dss tss) s.tf (staB P s T.sub)).says w h) (g : h.Ns mainGlobals mg) (hm : mg ("law" : Str) = some (.ref fa)) :
      ∃ (K : PySem.W.Frag) (fd : FuncData) (cs : List (Addr × Addr)) (sp : Sp), K.In h ∧ (∀ b o, K.lookup b = some o → o.cls ≠ .type "list") ∧ (∀ p ∈ cs, h.get? p.2 = some { cls := .none, data := .fields #[] }) ∧ (∀ p ∈ cs, K.lookup p.2 = none) ∧ (∀ p ∈ cs, PySem.W.CodeHd h p.1 p.2) ∧
        (∀ (s : Shared) (u : Value), BindsTo s fd ⟨[u], []⟩ [(("script" : Str), u)]) ∧
        (∀ (a : Addr) (vs : List Value) (ns : List Int), a ∉ cs.map (·.2) → ns.length ≤ n → (∀ z ∈ ns, Builtin.Int.intBits z ≤ 1048576) → sp [.ref a] (startH (cs.map (·.2)) a true vs ns) (fun v _ => v = .bl true) fun _ _ _ => False) ∧
        ∀ base : Heap, K.In base → base.Ns mainGlobals mg → (∀ p ∈ cs, TabB base mg p.1 p.2) → FnG l.prog w K mg base (L2.CX l.prog w) (4 * (d + 1)) fa fd [("script" : Str)] sp := by
  subst hP
  obtain ⟨K, X, c⟩ := Y
  obtain ⟨fd, F⟩ := says_def c hlw
  have st := staP c.more
  have mem : ∀ q ∈ s.tf.map (He.cT K), ∃ p ∈ s.tf, q = He.cT K p := fun q hq => by
    obtain ⟨p, hp, rfl⟩ := List.mem_map.mp hq
    exact ⟨p, hp, rfl⟩
  refine ⟨K, fd, s.tf.map (He.cT K), spM (gOf s dr K) (fun ws o => run T wf (d + 1) lw.ix none ws o) 1, X, noList_ok st.nl, fun q hq => ?_, fun q hq => ?_, fun q hq => ?_, fun t u => ?_, fun a vs ns ha hl hb => ?_, fun base Xb gb tb => ?_⟩
  · obtain ⟨p, hp, rfl⟩ := mem q hq
    exact c.empty p hp
  · obtain ⟨p, hp, rfl⟩ := mem q hq
    exact c.out p hp
  · obtain ⟨p, hp, rfl⟩ := mem q hq
    exact PySem.W.codeHd_of_K X (c.hd p hp)
  · have b := FunK.bindsTo F (L.df lw hlw).1 (L.df lw hlw).2 t [u] (by rw [hx]; rfl)
    rw [hx] at b
    exact b
  · exact start_sp hq st.nd ha (law ns hl hb)
  · have TB : TabsB s K mg base := fun p hp => tb _ (List.mem_map_of_mem hp)
    have S := says_pgS (wf := wf) (dr := dr) L c Xb gb (pr w h K c mg base Xb gb TB)
    have p := (pr w h K c mg base Xb gb TB lw hlw fd F).2 d fun e _ => S.all e
    have ea : He.fAd K lw.d.at_ = fa := by
      rw [hat]
      show He.ga K "law" = fa
      have q := gloB_ok X g (says_glo c (List.mem_append_left _ hlf))
      rw [hm] at q
      cases q
      rfl
    rw [ea, hx] at p
    exact p
end
end Mi
end
section
set_option linter.all false
set_option Elab.async false
set_option maxHeartbeats 1000000
set_option autoImplicit false
namespace Mi.N
open PySem (Str Operator CmpOp)
def Has (T : Tab) (i : Nat) (g : Fn) : Prop := T.fn i = some g ∧ T.nat i = none
/-- what a body's end hands back -/
def retR (n : Nat) : SR → R Val
  | .next _ o => .ok (.w (.d .non)) (o.take n)
  | .ret v o => finish n v o
  | .exc e _ o => .exc e (o.take n)
  | _ => .bad
theorem run_has {T : Tab} {wf d i : Nat} {g : Fn} {t : Option Thk} {ws : List W} {o : List Ob} (h : Has T i g) (hl : ws.length = g.np) :
    run T wf (d + 1) i t ws o = retR o.length (evB ⟨T, run T wf d, wf, t, none⟩ g.body (ws.map some ++ List.replicate (g.ns - g.np) none) o) := by
  unfold run
  rw [h.2]
  show (match T.fn i with | some g => _ | none => _) = _
  rw [h.1]
  show (if ws.length = g.np then _ else _) = _
  rw [if_pos hl]
  cases evB ⟨T, run T wf d, wf, t, none⟩ g.body (ws.map some ++ List.replicate (g.ns - g.np) none) o <;> rfl
@[simp] theorem retR_d (n : Nat) (x : D) (o : List Ob) : retR n (.ret (.w (.d x)) o) = .ok (.w (.d x)) (o.take n) := Eq.trans rfl rfl
@[simp] theorem retR_next (n : Nat) (σ : Sg) (o : List Ob) : retR n (.next σ o) = .ok (.w (.d .non)) (o.take n) := Eq.trans rfl rfl
@[simp] theorem retR_exc (n : Nat) (e : Ex) (σ : Sg) (o : List Ob) : retR n (.exc e σ o) = .exc e (o.take n) := Eq.trans rfl rfl
@[simp] theorem takeL (o : List Ob) : o.take o.length = o := List.take_length
@[simp] theorem bnd_ok {α β : Type} (a : α) (o : List Ob) (f : α → List Ob → R β) : bnd (.ok a o) f = f a o := Eq.trans rfl rfl
@[simp] theorem bnd_exc {α β : Type} (e : Ex) (o : List Ob) (f : α → List Ob → R β) : bnd (.exc e o) f = .exc e o := Eq.trans rfl rfl
@[simp] theorem bndS_ok {α : Type} (a : α) (σ : Sg) (o : List Ob) (f : α → List Ob → SR) : bndS (.ok a o) σ f = f a o := Eq.trans rfl rfl
@[simp] theorem bndS_exc {α : Type} (e : Ex) (σ : Sg) (o : List Ob) (f : α → List Ob → SR) : bndS (.exc e o) σ f = .exc e σ o := Eq.trans rfl rfl
@[simp] theorem okO_some {α : Type} (a : α) (o : List Ob) : okO (some a) o = .ok a o := Eq.trans rfl rfl
@[simp] theorem settle_w (w : W) : settle (.w w) = some w := Eq.trans rfl rfl
@[simp] theorem truth_bl (b : Bool) : truth (.w (.d (.bl b))) = some b := Eq.trans rfl rfl
@[simp] theorem asW_w (w : W) (o : List Ob) : asW (.ok (.w w) o) = .ok w o := Eq.trans rfl rfl
@[simp] theorem asT_bl (b : Bool) (o : List Ob) : asT (.ok (.w (.d (.bl b))) o) = .ok b o := Eq.trans rfl rfl
theorem allD_map (xs : List D) : allD (xs.map .d) = some xs := by
  induction xs with
  | nil => rfl
  | cons x xs ih => show (match allD (xs.map .d) with | some ys => some (x :: ys) | none => none) = _; rw [ih]
@[simp] theorem asW_fl (xs : List D) (o : List Ob) : asW (.ok (.fl (xs.map .d)) o) = .ok (.d (.lst xs)) o := by
  show bnd (R.ok (Val.fl (xs.map .d)) o) (fun v o => okO (settle v) o) = _
  show okO (match allD (xs.map .d) with | some xs => some (W.d (.lst xs)) | none => none) o = _
  rw [allD_map] <;> rfl
@[simp] theorem asW_flD (xs : List D) (o : List Ob) : asW (.ok (flD xs) o) = .ok (.d (.lst xs)) o := asW_fl xs o
@[simp] theorem view_d (o : List Ob) (x : D) : view o (.d x) = some x := Eq.trans rfl rfl
@[simp] theorem wd_eq (x : D) : wd x = .w (.d x) := Eq.trans rfl rfl
@[simp] theorem ev_c {cx : Cx} (d : D) {σ : Sg} {o : List Ob} : evE cx (.c d) σ o = (.ok (.w (.d d)) o) := Eq.trans rfl rfl
@[simp] theorem ev_gc {cx : Cx} (x : Nat) (d : D) {σ : Sg} {o : List Ob} : evE cx (.gc x d) σ o = (.ok (.w (.d d)) o) := Eq.trans rfl rfl
@[simp] theorem ev_var {cx : Cx} (i : Nat) {σ : Sg} {o : List Ob} : evE cx (.var i) σ o = (match σ[i]? with
    | some (some w) => .ok (.w w) o
    | _ => .bad) := rfl
@[simp] theorem ev_bin {cx : Cx} (op : Operator) (a b : E) {σ : Sg} {o : List Ob} : evE cx (.bin op a b) σ o = (bnd (asW (evE cx a σ o)) fun x o1 => bnd (asW (evE cx b σ o1)) fun y o2 => opD2 (binD op) x y o2) := Eq.trans rfl rfl
@[simp] theorem ev_neg {cx : Cx} (a : E) {σ : Sg} {o : List Ob} : evE cx (.neg a) σ o = (bnd (asW (evE cx a σ o)) fun x o1 => opD1 (fun p => (negD p).map wd) x o1) := Eq.trans rfl rfl
@[simp] theorem ev_cmp {cx : Cx} (op : CmpOp) (a b : E) {σ : Sg} {o : List Ob} : evE cx (.cmp op a b) σ o = (bnd (asW (evE cx a σ o)) fun x o1 => bnd (asW (evE cx b σ o1)) fun y o2 => cmpW cx op x y o2) := Eq.trans rfl rfl
@[simp] theorem ev_chain {cx : Cx} (op op2 : CmpOp) (a b c : E) {σ : Sg} {o : List Ob} : evE cx (.chain op op2 a b c) σ o = (bnd (asW (evE cx a σ o)) fun x o1 => bnd (asW (evE cx b σ o1)) fun y o2 => bnd (asT (cmpW cx op x y o2)) fun k o3 =>
      if k then bnd (asW (evE cx c σ o3)) fun z o4 => cmpW cx op2 y z o4 else .ok (wd (.bl false)) o3) := rfl
@[simp] theorem ev_isc {cx : Cx} (neg : Bool) (a : E) (d : D) {σ : Sg} {o : List Ob} : evE cx (.isc neg a d) σ o = (bnd (asW (evE cx a σ o)) fun x o1 => iscW neg d x o1) := Eq.trans rfl rfl
@[simp] theorem ev_and {cx : Cx} (a b : E) {σ : Sg} {o : List Ob} : evE cx (.and a b) σ o = (bnd (asT (evE cx a σ o)) fun k o1 => if k then bnd (asT (evE cx b σ o1)) fun k2 o2 => .ok (wd (.bl k2)) o2 else .ok (wd (.bl false)) o1) := Eq.trans rfl rfl
@[simp] theorem ev_or {cx : Cx} (a b : E) {σ : Sg} {o : List Ob} : evE cx (.or a b) σ o = (bnd (asT (evE cx a σ o)) fun k o1 => if k then .ok (wd (.bl true)) o1 else bnd (asT (evE cx b σ o1)) fun k2 o2 => .ok (wd (.bl k2)) o2) := Eq.trans rfl rfl
@[simp] theorem ev_not {cx : Cx} (a : E) {σ : Sg} {o : List Ob} : evE cx (.not a) σ o = (bnd (asT (evE cx a σ o)) fun k o1 => .ok (wd (.bl (!k))) o1) := Eq.trans rfl rfl
@[simp] theorem ev_ite {cx : Cx} (c a b : E) {σ : Sg} {o : List Ob} : evE cx (.ite c a b) σ o = (bnd (asT (evE cx c σ o)) fun k o1 => if k then evE cx a σ o1 else evE cx b σ o1) := Eq.trans rfl rfl
@[simp] theorem ev_tup {cx : Cx} (as : A) {σ : Sg} {o : List Ob} : evE cx (.tup as) σ o = (bnd (evA cx as σ o) fun ws o1 => tupR ws o1) := Eq.trans rfl rfl
@[simp] theorem ev_lst {cx : Cx} (as : A) {σ : Sg} {o : List Ob} : evE cx (.lst as) σ o = (bnd (evA cx as σ o) fun ws o1 => lstR ws o1) := Eq.trans rfl rfl
@[simp] theorem ev_alloc {cx : Cx} (e : E) {σ : Sg} {o : List Ob} : evE cx (.alloc e) σ o = (bnd (evE cx e σ o) allocR) := Eq.trans rfl rfl
@[simp] theorem ev_idx {cx : Cx} (a i : E) {σ : Sg} {o : List Ob} : evE cx (.idx a i) σ o = (bnd (asW (evE cx a σ o)) fun x o1 => bnd (asW (evE cx i σ o1)) fun y o2 => idxR x y o2) := Eq.trans rfl rfl
@[simp] theorem ev_sl {cx : Cx} (bl bh : Bool) (a lo hi : E) {σ : Sg} {o : List Ob} : evE cx (.sl bl bh a lo hi) σ o = (bnd (asW (evE cx a σ o)) fun x o1 => bnd (asW (evE cx lo σ o1)) fun y o2 => bnd (okO (partW bl y) o2) fun l o3 => bnd (asW (evE cx hi σ o3)) fun z o4 => bnd (okO (partW bh z) o4) fun h o5 => slR x l h o5) := Eq.trans rfl rfl
@[simp] theorem ev_rev {cx : Cx} (a : E) {σ : Sg} {o : List Ob} : evE cx (.rev a) σ o = (bnd (asW (evE cx a σ o)) fun x o1 => opD1 revD x o1) := Eq.trans rfl rfl
@[simp] theorem ev_attr {cx : Cx} (a : E) (f : Nat) {σ : Sg} {o : List Ob} : evE cx (.attr a f) σ o = (bnd (asW (evE cx a σ o)) fun x o1 => okO ((attrW o1 x f).map .w) o1) := Eq.trans rfl rfl
@[simp] theorem ev_call {cx : Cx} (f : Nat) (as : A) {σ : Sg} {o : List Ob} : evE cx (.call f as) σ o = (bnd (evA cx as σ o) fun ws o1 => cx.cal f none ws o1) := Eq.trans rfl rfl
@[simp] theorem ev_mk {cx : Cx} (c : Nat) (as : A) {σ : Sg} {o : List Ob} : evE cx (.mk c as) σ o = (bnd (evA cx as σ o) fun ws o1 => mkR cx c ws o1) := Eq.trans rfl rfl
@[simp] theorem ev_bi {cx : Cx} (b : Nat) (as : A) {σ : Sg} {o : List Ob} : evE cx (.bi b as) σ o = (bnd (evA cx as σ o) fun ws o1 => opDs (biD b) ws o1) := Eq.trans rfl rfl
@[simp] theorem ev_isi {cx : Cx} (T : Nat) (a : E) {σ : Sg} {o : List Ob} : evE cx (.isi T a) σ o = (bnd (asW (evE cx a σ o)) fun x o1 => isiW T x o1) := Eq.trans rfl rfl
@[simp] theorem ev_iso {cx : Cx} (c : Nat) (a : E) {σ : Sg} {o : List Ob} : evE cx (.iso c a) σ o = (bnd (asW (evE cx a σ o)) fun x o1 => isoW c x o1) := Eq.trans rfl rfl
@[simp] theorem ev_coll {cx : Cx} (b : Nat) (as : A) {σ : Sg} {o : List Ob} : evE cx (.coll b as) σ o = (bnd (evA cx as σ o) fun ws o1 => collR b ws o1) := Eq.trans rfl rfl
@[simp] theorem ev_mth {cx : Cx} (m : Nat) (r : E) (as : A) {σ : Sg} {o : List Ob} : evE cx (.mth m r as) σ o = (bnd (asW (evE cx r σ o)) fun x o1 => match kindW o1 x with
    | some k => bnd (evA cx as σ o1) fun ws o2 => mthR m k x ws o2
    | none => .bad) := rfl
@[simp] theorem ev_mut {cx : Cx} (m : Nat) (r : E) (as : A) {σ : Sg} {o : List Ob} : evE cx (.mut m r as) σ o = (bnd (asW (evE cx r σ o)) fun x o1 => match kindW o1 x with
    | some true => bnd (evA cx as σ o1) fun ws o2 => mutR m x ws o2
    | _ => .bad) := rfl
@[simp] theorem ev_thk {cx : Cx}  {σ : Sg} {o : List Ob} : evE cx (.thk) σ o = (match cx.thk with
    | some t => t o
    | none => .bad) := rfl
@[simp] theorem ev_exis {cx : Cx} (i c : Nat) {σ : Sg} {o : List Ob} : evE cx (.exis i c) σ o = (match cx.cur with
    | some e => .ok (wd (.bl (cx.tab.sub e.c c))) o
    | none => .bad) := rfl
@[simp] theorem ev_exat {cx : Cx} (i f : Nat) {σ : Sg} {o : List Ob} : evE cx (.exat i f) σ o = (match cx.cur with
    | some e => okO ((lookN f e.fs).map wd) o
    | none => .bad) := rfl
@[simp] theorem evA_nil {cx : Cx} {σ : Sg} {o : List Ob} : evA cx .nil σ o = .ok [] o := Eq.trans rfl rfl
@[simp] theorem evA_cons {cx : Cx} (e : E) (r : A) {σ : Sg} {o : List Ob} : evA cx (.cons e r) σ o = (bnd (asW (evE cx e σ o)) fun w o1 => bnd (evA cx r σ o1) fun ws o2 => .ok (w :: ws) o2) := Eq.trans rfl rfl
@[simp] theorem evS_set {cx : Cx} (i : Nat) (e : E) {σ : Sg} {o : List Ob} : evS cx (.set i e) σ o = (bndS (asW (evE cx e σ o)) σ fun w o1 => .next (σ.set i (some w)) o1) := Eq.trans rfl rfl
@[simp] theorem evS_unp {cx : Cx} (t : T) (e : E) {σ : Sg} {o : List Ob} : evS cx (.unp t e) σ o = (bndS (asW (evE cx e σ o)) σ fun w o1 => bindR t (.one w) σ o1) := Eq.trans rfl rfl
@[simp] theorem evS_seti {cx : Cx} (a i e : E) {σ : Sg} {o : List Ob} : evS cx (.seti a i e) σ o = (bndS (asW (evE cx e σ o)) σ fun w o1 => bndS (asW (evE cx a σ o1)) σ fun x o2 => bndS (asW (evE cx i σ o2)) σ fun y o3 => match y with
    | .d k => oS σ (setiW o3 x k w)
    | .loc _ => .bad) := rfl
@[simp] theorem evS_seta {cx : Cx} (a : E) (f : Nat) (e : E) {σ : Sg} {o : List Ob} : evS cx (.seta a f e) σ o = (bndS (asW (evE cx e σ o)) σ fun w o1 => bndS (asW (evE cx a σ o1)) σ fun x o2 => oS σ (setaW o2 x f w)) := Eq.trans rfl rfl
@[simp] theorem evS_parS {cx : Cx} (os is as : A) {σ : Sg} {o : List Ob} : evS cx (.parS os is as) σ o = (bndS (evA cx as σ o) σ fun ws o2 => storeAll (evPs cx os is) ws σ o2) := Eq.trans rfl rfl
@[simp] theorem evS_par {cx : Cx} (t : Ts) (as : A) {σ : Sg} {o : List Ob} : evS cx (.par t as) σ o = (bndS (evA cx as σ o) σ fun ws o1 => match bindTs t ws σ with
    | some σ1 => .next σ1 o1
    | none => .bad) := rfl
@[simp] theorem evS_ex {cx : Cx} (e : E) {σ : Sg} {o : List Ob} : evS cx (.ex e) σ o = (bndS (evE cx e σ o) σ fun _ o1 => .next σ o1) := Eq.trans rfl rfl
@[simp] theorem evS_ret {cx : Cx} (e : E) {σ : Sg} {o : List Ob} : evS cx (.ret e) σ o = (bndS (evE cx e σ o) σ fun v o1 => .ret v o1) := Eq.trans rfl rfl
@[simp] theorem evS_retN {cx : Cx}  {σ : Sg} {o : List Ob} : evS cx (.retN) σ o = (.ret (.w (.d .non)) o) := Eq.trans rfl rfl
@[simp] theorem evS_if {cx : Cx} (c : E) (a b : B) {σ : Sg} {o : List Ob} : evS cx (.ite c a b) σ o = (bndS (asT (evE cx c σ o)) σ fun k o1 => if k then evB cx a σ o1 else evB cx b σ o1) := Eq.trans rfl rfl
@[simp] theorem evS_raise {cx : Cx} (c : Nat) (as : A) {σ : Sg} {o : List Ob} : evS cx (.raise c as) σ o = (bndS (evA cx as σ o) σ fun ws o1 => raiseS cx c σ ws o1) := Eq.trans rfl rfl
@[simp] theorem evS_pass {cx : Cx}  {σ : Sg} {o : List Ob} : evS cx (.pass) σ o = (.next σ o) := Eq.trans rfl rfl
theorem evS_for {cx : Cx} (t : T) (it : I) (kill : List Nat) (b : B) {σ : Sg} {o : List Ob} : evS cx (.for t it kill b) σ o = (bndS (evI cx it σ o) σ fun f o1 => forG (fun x σ o2 => match bindT t x σ with | some σ1 => clean o1.length kill (evB cx b σ1 o2) | none => .bad) f cx.wf 0 σ o1) := rfl
@[simp] theorem evB_nil {cx : Cx} {σ : Sg} {o : List Ob} : evB cx .nil σ o = .next σ o := Eq.trans rfl rfl
/-- then -/
def thn (r : SR) (f : Sg → List Ob → SR) : SR := match r with
  | .next σ o => f σ o
  | x => x
@[simp] theorem thn_next (σ : Sg) (o : List Ob) (f : Sg → List Ob → SR) : thn (.next σ o) f = f σ o := Eq.trans rfl rfl
@[simp] theorem thn_ret (v : Val) (o : List Ob) (f : Sg → List Ob → SR) : thn (.ret v o) f = .ret v o := Eq.trans rfl rfl
@[simp] theorem thn_exc (e : Ex) (σ : Sg) (o : List Ob) (f : Sg → List Ob → SR) : thn (.exc e σ o) f = .exc e σ o := Eq.trans rfl rfl
@[simp] theorem evB_cons {cx : Cx} (s : S) (r : B) {σ : Sg} {o : List Ob} : evB cx (.cons s r) σ o = thn (evS cx s σ o) fun σ1 o1 => evB cx r σ1 o1 := by
  show (match evS cx s σ o with | .next σ1 o1 => evB cx r σ1 o1 | x => x) = _
  cases evS cx s σ o <;> rfl
/-- the bodies -/
def bInt : B := .cons (.ret (.and (.isi Bi.isInt (.var 0)) (.not (.isi Bi.isBool (.var 0))))) .nil
def bWithin : B := .cons (.ret (.and (.call 0 (.cons (.var 0) .nil)) (.chain .LtE .LtE (.var 1) (.var 0) (.var 2)))) .nil
def bTup : B := .cons (.ret (.and (.isi Bi.isTup (.var 0)) (.chain .LtE .LtE (.var 1) (.bi Bi.len (.cons (.var 0) .nil)) (.var 2)))) .nil
def isIntD : D → Bool
  | .int _ => true
  | _ => false
def kn (x : D) : Bool := (isiD 0 x).isSome
theorem r_int {T : Tab} {wf d : Nat} {t : Option Thk} {x : D} {o : List Ob} (h : Has T 0 ⟨1, 1, bInt⟩) (k : kn x = true) : run T wf (d + 1) 0 t [.d x] o = .ok (.w (.d (.bl (isIntD x)))) o := by
  rw [run_has h rfl]
  cases x <;> first | (simp [bInt, isiW, isiD, kn, Bi.isInt, Bi.isBool, finish, isIntD, Bi.isStr, Bi.isTup, Bi.isLst]; done) | (simp [kn, isiD] at k)
def isIn (x : D) (a b : Int) : Bool := match x with
  | .int i => decide (a ≤ i) && decide (i ≤ b)
  | _ => false
theorem r_within {T : Tab} {wf d : Nat} {t : Option Thk} {x : D} {a b : Int} {o : List Ob} (h0 : Has T 0 ⟨1, 1, bInt⟩) (h : Has T 1 ⟨3, 3, bWithin⟩) (k : kn x = true) :
    run T wf (d + 2) 1 t [.d x, .d (.int a), .d (.int b)] o = .ok (.w (.d (.bl (isIn x a b)))) o := by
  rw [run_has h rfl]
  simp [bWithin, r_int h0 k]
  cases x <;> simp [isIntD, isIn, cmpW, cmpD]
  rename_i i
  by_cases q : a ≤ i <;> simp [q]
/-- a tuple of so many -/
def tupIn (x : D) (a b : Int) : Bool := match x with
  | .tup xs => decide (a ≤ xs.length) && decide ((xs.length : Int) ≤ b)
  | _ => false
theorem r_tup {T : Tab} {wf d : Nat} {t : Option Thk} {x : D} {a b : Int} {o : List Ob} (h : Has T 2 ⟨3, 3, bTup⟩) (k : kn x = true) :
    run T wf (d + 1) 2 t [.d x, .d (.int a), .d (.int b)] o = .ok (.w (.d (.bl (tupIn x a b)))) o := by
  rw [run_has h rfl]
  cases x <;> first | (simp [bTup, isiW, isiD, kn, Bi.isInt, Bi.isBool, tupIn, Bi.isStr, Bi.isTup, Bi.isLst]; done) | (simp [kn, isiD] at k; done) | skip
  rename_i xs
  simp [bTup, isiW, isiD, tupIn, Bi.isStr, Bi.isTup, Bi.isLst, opDs, viewAll, biD, biLen, cmpW, cmpD, Bi.isInt, Bi.isBool, Bi.len]
  by_cases q : a ≤ xs.length <;> simp [q]
end Mi.N
end
section
set_option linter.all false
set_option Elab.async false
set_option maxHeartbeats 1000000
set_option autoImplicit false
namespace Mi.N
open PySem (Str Operator CmpOp)
/-! ### loops over a known row of items -/
def Src (f : Itr) (xs : List Item) : Prop := ∀ o i, f o i = some xs[i]?
def one (x : D) : Item := .one (.d x)
theorem src_tup (xs : List D) : Src (oneI (.d (.tup xs))) (xs.map one) := fun o i => by
  show (match (some (xs[i]?.map W.d) : Option (Option W)) with | some (some x) => some (some (Item.one x)) | some none => some none | none => none) = _
  rw [List.getElem?_map]
  cases xs[i]? <;> rfl
theorem src_lst (xs : List D) : Src (oneI (.d (.lst xs))) (xs.map one) := fun o i => by
  show (match (some (xs[i]?.map W.d) : Option (Option W)) with | some (some x) => some (some (Item.one x)) | some none => some none | none => none) = _
  rw [List.getElem?_map]
  cases xs[i]? <;> rfl
theorem src_rng (lo : Int) (n : Nat) : Src (rngI lo n) ((List.range n).map fun i => one (.int (lo + (i : Nat)))) := fun o i => by
  show some (if i < n then some (Item.one (.d (.int (lo + (i : Nat))))) else none) = _
  rw [List.getElem?_map]
  by_cases h : i < n
  · rw [if_pos h, List.getElem?_range h] <;> rfl
  · rw [if_neg h, List.getElem?_eq_none (by simpa using h)] <;> rfl
def enumL (xs : List D) : List Item := xs.mapIdx fun i x => .many [.d (.int (i : Nat)), .d x]
theorem src_enumT (xs : List D) : Src (enumI (.d (.tup xs))) (enumL xs) := fun o i => by
  show (match (some (xs[i]?.map W.d) : Option (Option W)) with | some (some x) => some (some (Item.many [.d (.int (i : Nat)), x])) | some none => some none | none => none) = _
  unfold enumL
  rw [List.getElem?_mapIdx]
  cases xs[i]? <;> rfl
theorem compG_src {step : Item → List Ob → R (List W)} {f : Itr} {xs : List Item} {o : List Ob} (hs : Src f xs) (g : Item → List W) : ∀ (fuel i : Nat) (acc : List W),
    (∀ j x, i ≤ j → xs[j]? = some x → step x o = .ok (g x) o) → acc.length + ((xs.drop i).flatMap g).length ≤ line → (xs.drop i).length < fuel → compG step f fuel i acc o = .ok (acc ++ (xs.drop i).flatMap g) o
  | 0, i, acc, h, hl, hf => absurd hf (Nat.not_lt_zero _)
  | fuel + 1, i, acc, h, hl, hf => by
    unfold compG
    rw [hs o i]
    cases q : xs[i]? with
    | none =>
      have : xs.drop i = [] := List.drop_eq_nil_of_le (List.getElem?_eq_none_iff.mp q)
      rw [this]
      simp
    | some x =>
      have hd : xs.drop i = x :: xs.drop (i + 1) := by
        obtain ⟨hi, e⟩ := List.getElem?_eq_some_iff.mp q
        rw [List.drop_eq_getElem_cons hi, e]
      rw [hd] at hl hf ⊢
      simp only [List.flatMap_cons, List.length_append, List.length_cons] at hl hf ⊢
      rw [h i x (Nat.le_refl i) q]
      dsimp only
      rw [if_pos (by omega)]
      rw [compG_src hs g fuel (i + 1) (acc ++ g x) (fun j y hj hy => h j y (by omega) hy) (by rw [List.length_append]; omega) (by omega), List.append_assoc]
theorem flatMap_one {α β : Type} (g : α → β) : ∀ xs : List α, (xs.flatMap fun x => [g x]) = xs.map g
  | [] => rfl
  | x :: xs => by rw [List.flatMap_cons, flatMap_one g xs] <;> rfl
/-- a comprehension over a row of items, no test -/
theorem ev_comp {cx : Cx} {own : List Nat} {t : T} {it : I} {elt : E} {σ : Sg} {o : List Ob} {f : Itr} {xs : List Item} {g : Item → D} (hi : evI cx it σ o = .ok f o) (hs : Src f xs)
    (h : ∀ (j : Nat) (x : Item), xs[j]? = some x → ∃ σ1, bindT t x (killAll σ own) = some σ1 ∧ asW (evE cx elt σ1 o) = .ok (.d (g x)) o) (hf : xs.length < cx.wf) (hl : xs.length ≤ line) :
    evE cx (.comp own t it (.c (.bl true)) elt) σ o = .ok (flD (xs.map g)) o := by
  have e : evE cx (.comp own t it (.c (.bl true)) elt) σ o = bnd (evI cx it σ o) fun f o1 =>
      bnd (compG (fun x o => match bindT t x (killAll σ own) with
            | some σ1 => bnd (asT (evE cx (.c (.bl true)) σ1 o)) fun k o2 => if k then bnd (asW (evE cx elt σ1 o2)) fun w o3 => .ok [w] (keep o.length w o3) else .ok [] (o2.take o.length)
            | none => .bad) f cx.wf 0 [] o1) fun ws o2 => .ok (.fl ws) o2 := Eq.trans rfl rfl
  rw [e, hi]
  show bnd (compG _ f cx.wf 0 [] o) _ = _
  have hz : (xs.flatMap fun x => [W.d (g x)]) = xs.map fun x => W.d (g x) := by
    exact flatMap_one _ _
  rw [compG_src hs (fun x => [.d (g x)]) cx.wf 0 [] (fun j x _ hx => ?_) (by rw [List.drop_zero, hz]; simpa using hl) (by rw [List.drop_zero]; exact hf)]
  · rw [List.drop_zero, hz]
    simp [flD, List.map_map]
  · obtain ⟨σ1, h1, h2⟩ := h j x hx
    simp [h1, h2, evE, keep]
/-- over a tuple or a list of data -/
theorem ev_compT {cx : Cx} {own : List Nat} {i : Nat} {e elt : E} {σ : Sg} {o : List Ob} {ds : List D} {g : D → D} (hi : asW (evE cx e σ o) = .ok (.d (.tup ds)) o)
    (h : ∀ x ∈ ds, asW (evE cx elt ((killAll σ own).set i (some (.d x))) o) = .ok (.d (g x)) o) (hf : ds.length < cx.wf) (hl : ds.length ≤ line) :
    evE cx (.comp own (.n i) (.of e) (.c (.bl true)) elt) σ o = .ok (flD (ds.map g)) o := by
  have := ev_comp (cx := cx) (own := own) (t := .n i) (it := .of e) (elt := elt) (σ := σ) (o := o) (f := oneI (.d (.tup ds))) (xs := ds.map one) (g := fun x => match x with | .one (.d x) => g x | _ => .non)
    (by simp [evI, hi, ofR, kindW]) (src_tup ds) (fun j x hx => by
      rw [List.getElem?_map] at hx
      cases q : ds[j]? with
      | none => rw [q] at hx; cases hx
      | some y =>
        rw [q] at hx
        cases hx
        exact ⟨_, rfl, h y (List.mem_of_getElem? q)⟩) (by simpa using hf) (by simpa using hl)
  rw [this, List.map_map]
  rfl
theorem ev_compL {cx : Cx} {own : List Nat} {i : Nat} {e elt : E} {σ : Sg} {o : List Ob} {ds : List D} {g : D → D} (hi : asW (evE cx e σ o) = .ok (.d (.lst ds)) o)
    (h : ∀ x ∈ ds, asW (evE cx elt ((killAll σ own).set i (some (.d x))) o) = .ok (.d (g x)) o) (hf : ds.length < cx.wf) (hl : ds.length ≤ line) :
    evE cx (.comp own (.n i) (.of e) (.c (.bl true)) elt) σ o = .ok (flD (ds.map g)) o := by
  have := ev_comp (cx := cx) (own := own) (t := .n i) (it := .of e) (elt := elt) (σ := σ) (o := o) (f := oneI (.d (.lst ds))) (xs := ds.map one) (g := fun x => match x with | .one (.d x) => g x | _ => .non)
    (by simp [evI, hi, ofR, kindW]) (src_lst ds) (fun j x hx => by
      rw [List.getElem?_map] at hx
      cases q : ds[j]? with
      | none => rw [q] at hx; cases hx
      | some y =>
        rw [q] at hx
        cases hx
        exact ⟨_, rfl, h y (List.mem_of_getElem? q)⟩) (by simpa using hf) (by simpa using hl)
  rw [this, List.map_map]
  rfl
theorem rng_small {n : Nat} (h : n ≤ line) : rngOk (n : Int) = true := by
  unfold line at h
  have e : (2 : Int) ^ 62 = 4611686018427387904 := by decide +kernel
  unfold rngOk
  rw [e, Bool.and_eq_true]
  exact ⟨decide_eq_true (by omega), decide_eq_true (by omega)⟩
theorem rangeR_one {j : Int} {o : List Ob} (h : rngOk j = true) : rangeR [.d (.int j)] o = .ok (rngI 0 j.toNat) o := by
  unfold rangeR
  exact if_pos h
theorem rangeR_two {i j : Int} {o : List Ob} (h : rngOk i = true) (h2 : rngOk j = true) : rangeR [.d (.int i), .d (.int j)] o = .ok (rngI i (j - i).toNat) o := by
  unfold rangeR
  exact if_pos (by rw [h, h2] <;> rfl)
theorem evI_rng {cx : Cx} {as : A} {σ : Sg} {o : List Ob} {n : Nat} (hi : evA cx as σ o = .ok [.d (.int n)] o) (h : n ≤ line) : evI cx (.range as) σ o = .ok (rngI 0 n) o := by
  have e : evI cx (.range as) σ o = bnd (evA cx as σ o) fun ws o1 => rangeR ws o1 := by rw [evI]
  rw [e, hi, bnd_ok, rangeR_one (rng_small h), Int.toNat_natCast]
/-- over range(n) -/
theorem ev_compR {cx : Cx} {own : List Nat} {i : Nat} {as : A} {elt : E} {σ : Sg} {o : List Ob} {n : Nat} {g : Nat → D} (hi : evA cx as σ o = .ok [.d (.int n)] o)
    (h : ∀ x < n, asW (evE cx elt ((killAll σ own).set i (some (.d (.int (x : Nat))))) o) = .ok (.d (g x)) o) (hf : n < cx.wf) (hl : n ≤ line) :
    evE cx (.comp own (.n i) (.range as) (.c (.bl true)) elt) σ o = .ok (flD ((List.range n).map g)) o := by
  have := ev_comp (cx := cx) (own := own) (t := .n i) (it := .range as) (elt := elt) (σ := σ) (o := o) (f := rngI 0 n) (xs := (List.range n).map fun i => one (.int (0 + (i : Nat)))) (g := fun x => match x with | .one (.d (.int x)) => g x.toNat | _ => .non)
    (evI_rng hi hl) (src_rng 0 n) (fun j x hx => by
      rw [List.getElem?_map] at hx
      cases q : (List.range n)[j]? with
      | none => rw [q] at hx; cases hx
      | some y =>
        have hy : y < n := List.mem_range.mp (List.mem_of_getElem? q)
        rw [q] at hx
        cases hx
        have := h y hy
        exact ⟨_, rfl, by simpa [one] using this⟩) (by simpa using hf) (by simpa using hl)
  rw [this, List.map_map]
  have e : ((fun x : Item => match x with | .one (.d (.int x)) => g x.toNat | _ => D.non) ∘ fun i : Nat => one (.int (0 + (i : Nat)))) = g := by
    funext i
    simp [one]
  exact congrArg (fun z => R.ok (flD ((List.range n).map z)) o) e
end Mi.N
end
section
set_option linter.all false
set_option Elab.async false
set_option maxHeartbeats 1000000
set_option autoImplicit false
namespace Mi.N
open PySem (Str Operator CmpOp)
/-! ### a for loop that looks, and ends at the first item that it does not like -/
def isEnd : SR → Prop
  | .ret _ _ => True
  | .exc _ _ _ => True
  | _ => False
theorem forG_findT {step : Item → Sg → List Ob → SR} {f : Itr} {xs : List Item} {o : List Ob} (τ : Nat → Sg) (hs : Src f xs) (g : Nat → Option SR) (he : ∀ j r, g j = some r → isEnd r) : ∀ (fuel i : Nat),
    (∀ j x, i ≤ j → xs[j]? = some x → step x (τ j) o = (g j).getD (.next (τ (j + 1)) o)) → i ≤ xs.length → (xs.drop i).length < fuel → forG step f fuel i (τ i) o = ((List.range' i (xs.length - i)).findSome? g).getD (.next (τ xs.length) o)
  | 0, i, h, hi, hf => absurd hf (Nat.not_lt_zero _)
  | fuel + 1, i, h, hl, hf => by
    unfold forG
    rw [hs o i]
    cases q : xs[i]? with
    | none =>
      have e : i = xs.length := Nat.le_antisymm hl (List.getElem?_eq_none_iff.mp q)
      rw [Nat.sub_eq_zero_of_le (List.getElem?_eq_none_iff.mp q), e] <;> rfl
    | some x =>
      obtain ⟨hi, e⟩ := List.getElem?_eq_some_iff.mp q
      have hd : xs.length - i = (xs.length - (i + 1)) + 1 := by omega
      rw [hd, List.range'_succ]
      dsimp only
      rw [h i x (Nat.le_refl i) q, List.findSome?_cons]
      cases y : g i with
      | none =>
        dsimp only [Option.getD]
        exact forG_findT τ hs g he fuel (i + 1) (fun j z hj hz => h j z (by omega) hz) hi (by rw [List.length_drop] at hf ⊢; omega)
      | some r =>
        have := he i r y
        cases r <;> first | rfl | exact absurd this (fun z => z)
theorem forG_find {step : Item → Sg → List Ob → SR} {f : Itr} {xs : List Item} {σ : Sg} {o : List Ob} (hs : Src f xs) (g : Nat → Option SR) (he : ∀ j r, g j = some r → isEnd r) (fuel : Nat)
    (h : ∀ j x, 0 ≤ j → xs[j]? = some x → step x σ o = (g j).getD (.next σ o)) (hf : (xs.drop 0).length < fuel) : forG step f fuel 0 σ o = ((List.range' 0 (xs.length - 0)).findSome? g).getD (.next σ o) :=
  forG_findT (fun _ => σ) hs g he fuel 0 h (Nat.zero_le _) hf
theorem find_all {α β : Type} (p : α → Bool) (v : β) : ∀ l : List α, (l.findSome? fun b => if p b then none else some v) = if l.all p then none else some v
  | [] => rfl
  | x :: xs => by
    rw [List.findSome?_cons, List.all_cons, find_all p v xs]
    cases p x <;> simp
theorem under_take {n : Nat} {σ : Sg} {o : List Ob} (h : n = o.length) : trunc n σ o = o := by
  unfold trunc
  subst h
  split
  · exact takeL o
  · rfl
/-! ### rows of numbers -/
def intL (r : List Nat) : List D := r.map fun (k : Nat) => D.int (k : Int)
def rowD (r : List Nat) : D := .tup (intL r)
def tabL (R : List (List Nat)) : List D := R.map rowD
def tabD (R : List (List Nat)) : D := .tup (tabL R)
theorem eqDs_int : ∀ a b : List Nat, eqDs (intL a) (intL b) = decide (a = b)
  | [], [] => rfl
  | [], y :: ys => by simp [intL, eqDs]
  | x :: xs, [] => by simp [intL, eqDs]
  | x :: xs, y :: ys => by
    show (eqD (.int x) (.int y) && eqDs (intL xs) (intL ys)) = _
    rw [eqDs_int xs ys]
    show (((x : Int) == (y : Int)) && _) = _
    by_cases h : x = y
    · subst h
      simp
    · have : ¬ (x : Int) = y := fun z => h (Int.ofNat_inj.mp z)
      simp [h, this]
theorem eqD_row (a b : List Nat) : eqD (rowD a) (rowD b) = decide (a = b) := eqDs_int a b
theorem eqDs_tab : ∀ a b : List (List Nat), eqDs (tabL a) (tabL b) = decide (a = b)
  | [], [] => rfl
  | [], y :: ys => by simp [tabL, eqDs]
  | x :: xs, [] => by simp [tabL, eqDs]
  | x :: xs, y :: ys => by
    show (eqD (rowD x) (rowD y) && eqDs (tabL xs) (tabL ys)) = _
    rw [eqDs_tab xs ys, eqD_row]
    by_cases h : x = y <;> simp [h]
theorem plains_int (n : Nat) : ∀ a : List Nat, plains n (intL a) = true
  | [] => by simp [intL, plains]
  | x :: xs => by
    show plains n (.int x :: intL xs) = true
    unfold plains
    rw [plains_int n xs]
    cases n <;> simp [plain]
theorem plain_row (n : Nat) (a : List Nat) : plain (n + 1) (rowD a) = true := by
  show plain (n + 1) (.tup (intL a)) = true
  simp [plain, plains_int]
theorem plains_tab (n : Nat) : ∀ a : List (List Nat), plains (n + 1) (tabL a) = true
  | [] => by simp [tabL, plains]
  | x :: xs => by
    show plains (n + 1) (rowD x :: tabL xs) = true
    unfold plains
    rw [plains_tab n xs, plain_row] <;> rfl
theorem plain_tab (n : Nat) (a : List (List Nat)) : plain (n + 2) (tabD a) = true := by
  show plain (n + 2) (.tup (tabL a)) = true
  simp [plain, plains_tab]
theorem plain_lint (n : Nat) (a : List Nat) : plain (n + 1) (.lst (intL a)) = true := by simp [plain, plains_int]
theorem memD_int (k : Nat) (a : List Nat) : memD (.int k) (intL a) = decide (k ∈ a) := by
  unfold memD intL
  rw [List.any_map]
  induction a with
  | nil => rfl
  | cons x xs ih =>
    rw [List.any_cons, ih]
    show (((x : Int) == (k : Int)) || _) = _
    by_cases h : x = k
    · subst h
      simp
    · have h1 : ¬ (x : Int) = k := fun z => h (Int.ofNat_inj.mp z)
      have h2 : ¬ k = x := fun z => h z.symm
      simp [h1, h2]
theorem rngs_int (n : Nat) : rngsD 0 n = intL (List.range n) := by
  unfold rngsD intL
  apply List.map_congr_left
  intro x _
  rw [Int.zero_add]
@[simp] theorem intL_len (a : List Nat) : (intL a).length = a.length := List.length_map _
@[simp] theorem tabL_len (a : List (List Nat)) : (tabL a).length = a.length := List.length_map _
theorem intL_get (a : List Nat) (i : Nat) : (intL a)[i]? = a[i]?.map fun k : Nat => D.int (k : Int) := List.getElem?_map
theorem tabL_get (a : List (List Nat)) (i : Nat) : (tabL a)[i]? = a[i]?.map rowD := List.getElem?_map
theorem ixN_nat {n i : Nat} (h : i < n) : ixN n (i : Int) = some i := by
  unfold ixN
  rw [if_pos (Int.natCast_nonneg i), if_pos (Int.ofNat_lt.mpr h), Int.toNat_natCast]
theorem atI_nat {α : Type} {xs : List α} {i : Nat} (h : i < xs.length) : atI xs (i : Int) = some xs[i] := by
  unfold atI
  rw [ixN_nat h]
  exact List.getElem?_eq_getElem h
theorem idx_tab {R : List (List Nat)} {i : Nat} {o : List Ob} (h : i < R.length) : idxW o (.d (tabD R)) (.int i) = some (.d (rowD R[i])) := by
  show (atI (tabL R) (i : Int)).map W.d = _
  rw [atI_nat (by rw [tabL_len]; exact h)]
  simp [tabL]
theorem idx_row {r : List Nat} {i : Nat} {o : List Ob} (h : i < r.length) : idxW o (.d (rowD r)) (.int i) = some (.d (.int r[i])) := by
  show (atI (intL r) (i : Int)).map W.d = _
  rw [atI_nat (by rw [intL_len]; exact h)]
  simp [intL]
end Mi.N
end
section
set_option linter.all false
set_option Elab.async false
set_option maxHeartbeats 1000000
set_option autoImplicit false
namespace Mi.N
open PySem (Str Operator CmpOp)
def nth (r : List Nat) (i : Nat) : Nat := r.getD i 0
def rowAt (R : List (List Nat)) (i : Nat) : List Nat := R.getD i []
theorem nth_eq (r : List Nat) (i : Nat) : nth r i = r.getD i 0 := rfl
theorem rowAt_eq (R : List (List Nat)) (i : Nat) : rowAt R i = R.getD i [] := rfl
structure Sq (m : Nat) (R : List (List Nat)) : Prop where
  len : R.length = m
  row : ∀ r ∈ R, r.length = m ∧ ∀ k ∈ r, k < m
def goesRow (m : Nat) (R : List (List Nat)) (a : Nat) : Bool := (List.range m).all fun b => decide ((rowAt R b).map (fun c => nth (rowAt R a) c) = rowAt R (nth (rowAt R a) b))
def goesB (m : Nat) (R : List (List Nat)) : Bool := (List.range m).all (goesRow m R)
def bGoes : B :=
    (.cons (.for (.n 1) (.of (.var 0)) [1, 2, 3, 4]
    (.cons (.for (.tup (.cons (.n 2) (.cons (.n 3) .nil))) (.enum (.var 1)) [2, 3, 4]
    (.cons (.ite (.cmp .NotEq (.bi Bi.tup (.cons (.comp [4] (.n 4) (.of (.idx (.var 0) (.var 2))) (.c (.bl true)) (.idx (.var 1) (.var 4))) .nil)) (.idx (.var 0) (.var 3)))
    (.cons (.ret (.c (.bl false)))
    .nil)
    .nil)
    .nil))
    .nil))
    (.cons (.ret (.c (.bl true)))
    .nil))
theorem Sq.get {m : Nat} {R : List (List Nat)} (S : Sq m R) {i : Nat} (h : i < m) : (rowAt R i) ∈ R := by
  rw [rowAt_eq, List.getD_eq_getElem?_getD, List.getElem?_eq_getElem (by rw [S.len]; exact h)]
  exact List.getElem_mem _
theorem Sq.getl {m : Nat} {R : List (List Nat)} (S : Sq m R) {i : Nat} (h : i < m) : (rowAt R i).length = m := (S.row _ (S.get h)).1
theorem idx_tabD {m : Nat} {R : List (List Nat)} (S : Sq m R) {i : Nat} {o : List Ob} (h : i < m) : idxW o (.d (tabD R)) (.int i) = some (.d (rowD (rowAt R i))) := by
  have h2 : i < R.length := by rw [S.len]; exact h
  rw [idx_tab h2, rowAt_eq, List.getD_eq_getElem?_getD, List.getElem?_eq_getElem h2] <;> rfl
theorem idx_rowD {r : List Nat} {i : Nat} {o : List Ob} (h : i < r.length) : idxW o (.d (rowD r)) (.int i) = some (.d (.int ((nth r i : Nat) : Int))) := by
  rw [idx_row h, nth_eq, List.getD_eq_getElem?_getD, List.getElem?_eq_getElem h] <;> rfl
theorem tup_flD (xs : List D) (o : List Ob) : opDs (biD Bi.tup) [.d (.lst xs)] o = .ok (.w (.d (.tup xs))) o := rfl
theorem cmp_ne {cx : Cx} {x y : D} {o : List Ob} (hx : plain 60 x = true) (hy : plain 60 y = true) (hs : ∀ s, x ≠ .str s) : cmpW cx .NotEq (.d x) (.d y) o = .ok (.w (.d (.bl (!eqD x y)))) o := by
  have e : ∀ z : D, deep o 60 (.d z) = some z := fun z => rfl
  unfold cmpW
  simp only [e]
  cases x <;> first | (simp [hx, hy]; done) | (exact absurd rfl (hs _)) | (simp [plain] at hx; done)
theorem cmp_eq {cx : Cx} {x y : D} {o : List Ob} (hx : plain 60 x = true) (hy : plain 60 y = true) (hs : ∀ s, x ≠ .str s) : cmpW cx .Eq (.d x) (.d y) o = .ok (.w (.d (.bl (eqD x y)))) o := by
  have e : ∀ z : D, deep o 60 (.d z) = some z := fun z => rfl
  unfold cmpW
  simp only [e]
  cases x <;> first | (simp [hx, hy]; done) | (exact absurd rfl (hs _)) | (simp [plain] at hx; done)
theorem getD_lt {r : List Nat} {m b : Nat} (h : ∀ k ∈ r, k < m) (hb : b < r.length) : nth r b < m := by
  rw [nth_eq, List.getD_eq_getElem?_getD, List.getElem?_eq_getElem hb]
  exact h _ (List.getElem_mem _)
theorem map_getD {r : List Nat} (q : List Nat) : (intL q).map (fun z => match z with | .int k => D.int ((nth r k.toNat : Nat) : Int) | _ => .non) = intL (q.map fun c => nth r c) := by
  unfold intL
  rw [List.map_map, List.map_map]
  rfl
section
variable {T : Tab} {wf d : Nat} {t : Option Thk} {o : List Ob} {m : Nat} {R : List (List Nat)}
theorem goes_inner {cal : Cal} (S : Sq m R) (hm : m < wf) (hml : m ≤ line) {r : List Nat} (hr : r ∈ R) {b : Nat} (hb : b < m) :
    evE ⟨T, cal, wf, t, none⟩ (.cmp .NotEq (.bi Bi.tup (.cons (.comp [4] (.n 4) (.of (.idx (.var 0) (.var 2))) (.c (.bl true)) (.idx (.var 1) (.var 4))) .nil)) (.idx (.var 0) (.var 3)))
      [some (.d (tabD R)), some (.d (rowD r)), some (.d (.int b)), some (.d (.int (nth r b : Nat))), none] o =
    .ok (.w (.d (.bl (!decide ((rowAt R b).map (fun c => nth r c) = rowAt R (nth r b)))))) o := by
  have hrl := S.row r hr
  have hx : nth r b < m := getD_lt hrl.2 (by rw [hrl.1]; exact hb)
  have c : evE ⟨T, cal, wf, t, none⟩ (.comp [4] (.n 4) (.of (.idx (.var 0) (.var 2))) (.c (.bl true)) (.idx (.var 1) (.var 4))) [some (.d (tabD R)), some (.d (rowD r)), some (.d (.int b)), some (.d (.int (nth r b : Nat))), none] o =
      .ok (flD (intL ((rowAt R b).map fun c => nth r c))) o := by
    rw [← map_getD (r := r)]
    refine ev_compT ?_ ?_ ?_ ?_
    · simp [idxR, idx_tabD S hb]
      rfl
    · intro x hx
      obtain ⟨k, hk, rfl⟩ := List.mem_map.mp hx
      have hk2 : k < r.length := by rw [hrl.1]; exact (S.row _ (S.get hb)).2 k hk
      simp [idxR, killAll, idx_rowD hk2]
    · rw [intL_len, S.getl hb]
      exact hm
    · rw [intL_len, S.getl hb]
      exact hml
  simp [c, tup_flD, idxR, idx_tabD S hx]
  show cmpW _ _ (.d (rowD _)) _ _ = _
  rw [cmp_ne (plain_row _ _) (plain_row _ _) (fun s h => by cases h), eqD_row]
theorem row_is (S : Sq m R) {j : Nat} {x : List Nat} (h : R[j]? = some x) : x = rowAt R j ∧ j < m := by
  obtain ⟨hj, e⟩ := List.getElem?_eq_some_iff.mp h
  refine ⟨?_, by rw [← S.len]; exact hj⟩
  rw [rowAt_eq, List.getD_eq_getElem?_getD, h] <;> rfl
theorem nth_is {r : List Nat} {j k : Nat} (h : r[j]? = some k) : k = nth r j := by
  rw [nth_eq, List.getD_eq_getElem?_getD, h] <;> rfl
theorem goes_row {cal : Cal} (S : Sq m R) (hm : m < wf) (hml : m ≤ line) {a : Nat} (ha : a < m) :
    evS ⟨T, cal, wf, t, none⟩ (.for (.tup (.cons (.n 2) (.cons (.n 3) .nil))) (.enum (.var 1)) [2, 3, 4]
    (.cons (.ite (.cmp .NotEq (.bi Bi.tup (.cons (.comp [4] (.n 4) (.of (.idx (.var 0) (.var 2))) (.c (.bl true)) (.idx (.var 1) (.var 4))) .nil)) (.idx (.var 0) (.var 3)))
    (.cons (.ret (.c (.bl false)))
    .nil)
    .nil)
    .nil)) [some (.d (tabD R)), some (.d (rowD (rowAt R a))), none, none, none] o =
    if goesRow m R a then .next [some (.d (tabD R)), some (.d (rowD (rowAt R a))), none, none, none] o else .ret (.w (.d (.bl false))) o := by
  have hrl := S.getl ha
  rw [evS_for]
  simp only [evI, ev_var, bnd_ok, asW_w, enumR, kindW, rowD, List.getElem?_cons_succ, List.getElem?_cons_zero, Option.isSome_some, if_true, bndS_ok]
  refine (forG_find (src_enumT (intL (rowAt R a))) (fun b => if decide ((rowAt R b).map (fun c => nth (rowAt R a) c) = rowAt R (nth (rowAt R a) b)) then none else some (.ret (.w (.d (.bl false))) o)) (fun j r h => ?he) wf (fun j x _ hx => ?hs) ?hf).trans ?fin
  case fin =>
    rw [find_all, ← List.range_eq_range']
    unfold goesRow
    unfold enumL
    rw [Nat.sub_zero, List.length_mapIdx, intL_len, hrl]
    split <;> rfl
  case he =>
    split at h <;> cases h
    trivial
  case hs =>
    unfold enumL at hx
    rw [List.getElem?_mapIdx, intL_get] at hx
    cases q : (rowAt R a)[j]? with
    | none => rw [q] at hx; cases hx
    | some k =>
      rw [q] at hx
      cases hx
      have hj : j < m := by
        obtain ⟨hj, _⟩ := List.getElem?_eq_some_iff.mp q
        rw [← hrl]
        exact hj
      have e := goes_inner (T := T) (wf := wf) (t := t) (o := o) (cal := cal) S hm hml (S.get ha) hj
      rw [← nth_is q] at e
      simp only [rowD] at e
      simp [bindT, bindTs, e]
      have hk := nth_is q
      subst hk
      split <;> simp [clean, killAll, under_take]
  case hf =>
    unfold enumL
    rw [List.drop_zero, List.length_mapIdx, intL_len, hrl]
    exact hm
theorem evI_tab {cx : Cx} {e : E} {σ : Sg} {xs : List D} (h : asW (evE cx e σ o) = .ok (.d (.tup xs)) o) : evI cx (.of e) σ o = .ok (oneI (.d (.tup xs))) o := by
  have e2 : evI cx (.of e) σ o = bnd (asW (evE cx e σ o)) fun w o1 => ofR w o1 := rfl
  rw [e2, h] <;> rfl
theorem r_goes (h5 : Has T 5 ⟨1, 5, bGoes⟩) (S : Sq m R) (hm : m < wf) (hml : m ≤ line) : run T wf (d + 1) 5 t [.d (tabD R)] o = .ok (.w (.d (.bl (goesB m R)))) o := by
  rw [run_has h5 rfl]
  unfold bGoes
  have key : evS ⟨T, run T wf d, wf, t, none⟩ (.for (.n 1) (.of (.var 0)) [1, 2, 3, 4]
    (.cons (.for (.tup (.cons (.n 2) (.cons (.n 3) .nil))) (.enum (.var 1)) [2, 3, 4]
    (.cons (.ite (.cmp .NotEq (.bi Bi.tup (.cons (.comp [4] (.n 4) (.of (.idx (.var 0) (.var 2))) (.c (.bl true)) (.idx (.var 1) (.var 4))) .nil)) (.idx (.var 0) (.var 3)))
    (.cons (.ret (.c (.bl false)))
    .nil)
    .nil)
    .nil))
    .nil)) [some (.d (tabD R)), none, none, none, none] o = if goesB m R then .next [some (.d (tabD R)), none, none, none, none] o else .ret (.w (.d (.bl false))) o := by
    rw [evS_for, evI_tab (xs := tabL R) (by simp; rfl), bndS_ok]
    refine (forG_find (src_tup (tabL R)) (fun a => if goesRow m R a then none else some (.ret (.w (.d (.bl false))) o)) (fun j r h => ?he) wf (fun j x _ hx => ?hs) ?hf).trans ?fin
    case fin =>
      rw [find_all, ← List.range_eq_range']
      unfold goesB
      rw [Nat.sub_zero, List.length_map, tabL_len, S.len]
      split <;> rfl
    case he =>
      split at h <;> cases h
      trivial
    case hs =>
      rw [List.getElem?_map, tabL_get] at hx
      cases q : R[j]? with
      | none => rw [q] at hx; cases hx
      | some r =>
        rw [q] at hx
        cases hx
        obtain ⟨rfl, hj⟩ := row_is S q
        have e := goes_row (T := T) (wf := wf) (t := t) (o := o) (cal := run T wf d) S hm hml hj
        simp only [one, bindT, List.set_cons_succ, List.set_cons_zero]
        rw [evB_cons, e]
        split <;> simp [clean, killAll, under_take]
    case hf =>
      rw [List.drop_zero, List.length_map, tabL_len, S.len]
      exact hm
  rw [evB_cons]
  simp only [List.map_cons, List.map_nil, List.replicate, List.cons_append, List.nil_append, Nat.reduceSub] at key ⊢
  rw [key]
  cases goesB m R <;> simp
end
end Mi.N
end
section
set_option linter.all false
set_option Elab.async false
set_option maxHeartbeats 1000000
set_option autoImplicit false
namespace Mi.N
open PySem (Str Operator CmpOp)
/-! ### Group's table: what is wrong with it -/
def rowOkD (m : Nat) : D → Bool
  | .tup ys => decide (ys.length = m) && ys.all fun x => isIn x 0 ((m : Int) - 1)
  | _ => false
def natOf : D → Nat
  | .int i => i.toNat
  | _ => 0
def rowOf : D → List Nat
  | .tup ys => ys.map natOf
  | _ => []
theorem cell_is {m : Nat} {x : D} (h : isIn x 0 ((m : Int) - 1) = true) : x = .int (natOf x : Nat) ∧ natOf x < m := by
  cases x <;> simp [isIn] at h
  rename_i i
  simp only [natOf]
  refine ⟨by rw [Int.toNat_of_nonneg h.1], by omega⟩
theorem cells_is {m : Nat} : ∀ ys : List D, (ys.all fun x => isIn x 0 ((m : Int) - 1)) = true → ys = intL (ys.map natOf) ∧ ∀ k ∈ ys.map natOf, k < m
  | [], _ => ⟨rfl, fun k h => by cases h⟩
  | y :: ys, h => by
    rw [List.all_cons, Bool.and_eq_true] at h
    obtain ⟨e, l⟩ := cell_is h.1
    obtain ⟨e2, l2⟩ := cells_is ys h.2
    refine ⟨?_, fun k hk => ?_⟩
    · show y :: ys = D.int (natOf y : Nat) :: intL (ys.map natOf)
      rw [← e, ← e2]
    · cases hk with
      | head => exact l
      | tail _ q => exact l2 k q
theorem row_isD {m : Nat} {x : D} (h : rowOkD m x = true) : x = rowD (rowOf x) ∧ (rowOf x).length = m ∧ ∀ k ∈ rowOf x, k < m := by
  cases x <;> simp only [rowOkD] at h <;> first | (cases h; done) | skip
  rename_i ys
  rw [Bool.and_eq_true] at h
  obtain ⟨e, l⟩ := cells_is ys h.2
  refine ⟨?_, ?_, l⟩
  · show D.tup ys = .tup (intL (ys.map natOf))
    rw [← e]
  · show (ys.map natOf).length = m
    rw [List.length_map]
    exact of_decide_eq_true h.1
theorem rows_is {m : Nat} : ∀ rows : List D, (∀ x ∈ rows, rowOkD m x = true) → rows = tabL (rows.map rowOf) ∧ ∀ r ∈ rows.map rowOf, r.length = m ∧ ∀ k ∈ r, k < m
  | [], _ => ⟨rfl, fun k h => by cases h⟩
  | y :: ys, h => by
    obtain ⟨e, l⟩ := row_isD (h y (List.mem_cons_self ..))
    obtain ⟨e2, l2⟩ := rows_is ys fun x hx => h x (List.mem_cons_of_mem _ hx)
    refine ⟨?_, fun k hk => ?_⟩
    · show y :: ys = rowD (rowOf y) :: tabL (ys.map rowOf)
      rw [← e, ← e2]
    · cases hk with
      | head => exact l
      | tail _ q => exact l2 k q
def atD (xs : List D) (i : Nat) : D := xs.getD i .non
theorem atD_eq (xs : List D) (i : Nat) : atD xs i = xs.getD i .non := rfl
theorem atD_is {xs : List D} {j : Nat} {x : D} (h : xs[j]? = some x) : x = atD xs j := by
  rw [atD_eq, List.getD_eq_getElem?_getD, h] <;> rfl
def badRow (m : Nat) (rows : List D) : Option Nat := (List.range rows.length).findSome? fun i => if rowOkD m (atD rows i) then none else some i
theorem badRow_none {m : Nat} {rows : List D} (h : badRow m rows = none) : ∀ x ∈ rows, rowOkD m x = true := by
  intro x hx
  obtain ⟨i, hi, e⟩ := List.mem_iff_getElem.mp hx
  have q := List.findSome?_eq_none_iff.mp h i (List.mem_range.mpr hi)
  have e2 : atD rows i = x := (atD_is (by rw [List.getElem?_eq_getElem hi, e])).symm
  rw [e2] at q
  cases z : rowOkD m x with
  | true => rfl
  | false => rw [z] at q; cases q
def sTable : Str := PySem.Str.ofString "table"
def sOne : Str := PySem.Str.ofString "one"
def sBacks : Str := PySem.Str.ofString "backs"
def sThrees : Str := PySem.Str.ofString "threes"
def oneOk (m : Nat) (R : List (List Nat)) : Bool := decide (rowAt R 0 = List.range m) && decide (R.map (fun r => nth r 0) = List.range m)
def backsOk (R : List (List Nat)) : Bool := R.all fun r => decide (0 ∈ r)
def faultN (m : Nat) (R : List (List Nat)) : Option Str := if oneOk m R then (if backsOk R then (if goesB m R then none else some sThrees) else some sBacks) else some sOne
def faultG : D → Option D
  | .tup rows => if 1 ≤ rows.length ∧ rows.length ≤ 32 then match badRow rows.length rows with
    | some i => some (.int i)
    | none => (faultN rows.length (rows.map rowOf)).map .str
    else some (.str sTable)
  | _ => some (.str sTable)
/-- what is looked at is of a known kind -/
def knR : D → Bool
  | .tup ys => ys.all kn
  | x => kn x
def knT : D → Bool
  | .tup rows => rows.all knR
  | x => kn x
theorem knR_kn {x : D} (h : knR x = true) : kn x = true := by
  cases x <;> first | rfl | exact h
theorem knT_kn {x : D} (h : knT x = true) : kn x = true := by
  cases x <;> first | rfl | exact h
def bInit : B :=
    (.cons (.ite (.not (.call 2 (.cons (.var 1) (.cons (.c (.int 1)) (.cons (.gc 0 (.int 32)) .nil)))))
    (.cons (.raise 20 (.cons (.c (.str (PySem.Str.ofString "table"))) .nil))
    .nil)
    .nil)
    (.cons (.set 2 (.bi Bi.len (.cons (.var 1) .nil)))
    (.cons (.for (.tup (.cons (.n 3) (.cons (.n 4) .nil))) (.enum (.var 1)) [3, 5]
    (.cons (.ite (.or (.not (.call 2 (.cons (.var 4) (.cons (.var 2) (.cons (.var 2) .nil))))) (.not (.bi Bi.all (.cons (.comp [5] (.n 5) (.of (.var 4)) (.c (.bl true)) (.call 1 (.cons (.var 5) (.cons (.c (.int 0)) (.cons (.bin .Sub (.var 2) (.c (.int 1))) .nil))))) .nil))))
    (.cons (.raise 20 (.cons (.var 3) .nil))
    .nil)
    .nil)
    .nil))
    (.cons (.ite (.or (.cmp .NotEq (.bi Bi.lst (.cons (.idx (.var 1) (.c (.int 0))) .nil)) (.coll Bi.lst (.cons (.var 2) .nil))) (.cmp .NotEq (.comp [4] (.n 4) (.of (.var 1)) (.c (.bl true)) (.idx (.var 4) (.c (.int 0)))) (.coll Bi.lst (.cons (.var 2) .nil))))
    (.cons (.raise 20 (.cons (.c (.str (PySem.Str.ofString "one"))) .nil))
    .nil)
    .nil)
    (.cons (.ite (.not (.bi Bi.all (.cons (.comp [4] (.n 4) (.of (.var 1)) (.c (.bl true)) (.cmp .In (.c (.int 0)) (.var 4))) .nil)))
    (.cons (.raise 20 (.cons (.c (.str (PySem.Str.ofString "backs"))) .nil))
    .nil)
    .nil)
    (.cons (.ite (.not (.call 5 (.cons (.var 1) .nil)))
    (.cons (.raise 20 (.cons (.c (.str (PySem.Str.ofString "threes"))) .nil))
    .nil)
    .nil)
    (.cons (.seta (.var 0) 1 (.var 1))
    (.cons (.seta (.var 0) 2 (.var 2))
    (.cons (.seta (.var 0) 3 (.bi Bi.tup (.cons (.comp [4] (.n 4) (.of (.var 1)) (.c (.bl true)) (.mth Mt.index (.var 4) (.cons (.c (.int 0)) .nil))) .nil)))
    .nil)))))))))
/-- the program's functions that a Group is made by -/
structure Grp (T : Tab) : Prop where
  h0 : Has T 0 ⟨1, 1, bInt⟩
  h1 : Has T 1 ⟨3, 3, bWithin⟩
  h2 : Has T 2 ⟨3, 3, bTup⟩
  h3 : Has T 3 ⟨2, 6, bInit⟩
  h5 : Has T 5 ⟨1, 5, bGoes⟩
  c0 : ∃ e, T.cl 0 = some ⟨some 3, e, false, none⟩
  c20 : T.cl 20 = some ⟨none, none, false, some [0]⟩
theorem boolsD_bl : ∀ bs : List Bool, boolsD (bs.map .bl) = some bs
  | [] => rfl
  | b :: bs => by
    show (match boolsD (bs.map .bl) with | some xs => some (b :: xs) | none => none) = _
    rw [boolsD_bl bs]
theorem all_flD (bs : List Bool) (o : List Ob) : opDs (biD Bi.all) [.d (.lst (bs.map .bl))] o = .ok (.w (.d (.bl (bs.all id)))) o := by
  show okO (match boolsD (bs.map .bl) with | some bs => some (wd (.bl (bs.all id))) | none => none) o = _
  rw [boolsD_bl] <;> rfl
theorem any_flD (bs : List Bool) (o : List Ob) : opDs (biD Bi.any) [.d (.lst (bs.map .bl))] o = .ok (.w (.d (.bl (bs.any id)))) o := by
  show okO (match boolsD (bs.map .bl) with | some bs => some (wd (.bl (bs.any id))) | none => none) o = _
  rw [boolsD_bl] <;> rfl
theorem raise20 {T : Tab} (G : Grp T) {cal : Cal} {wf : Nat} {t : Option Thk} {cur : Option Ex} {σ : Sg} {o : List Ob} (p : D) : raiseS ⟨T, cal, wf, t, cur⟩ 20 σ [.d p] o = .exc ⟨20, [(0, p)]⟩ σ o := by
  unfold raiseS
  rw [G.c20]
  rfl
section
variable {T : Tab} {wf d : Nat} {t : Option Thk} {o : List Ob}
/-- a row's look -/
theorem init_row (G : Grp T) {m : Nat} {x : D} {a b : Option W} {j : Int} (k : knR x = true) (hm : 1 ≤ m) (hm2 : m ≤ 32) (hw : 32 < wf) :
    evE ⟨T, run T wf (d + 2), wf, t, none⟩ (.or (.not (.call 2 (.cons (.var 4) (.cons (.var 2) (.cons (.var 2) .nil))))) (.not (.bi Bi.all (.cons (.comp [5] (.n 5) (.of (.var 4)) (.c (.bl true)) (.call 1 (.cons (.var 5) (.cons (.c (.int 0)) (.cons (.bin .Sub (.var 2) (.c (.int 1))) .nil))))) .nil))))
      [a, b, some (.d (.int m)), some (.d (.int j)), some (.d x), none] o = .ok (.w (.d (.bl (!rowOkD m x)))) o := by
  have e2 := r_tup (T := T) (wf := wf) (d := d + 1) (t := none) (x := x) (a := m) (b := m) (o := o) G.h2 (knR_kn k)
  simp only [ev_or, ev_not, ev_call, evA_cons, evA_nil, ev_var, List.getElem?_cons_succ, List.getElem?_cons_zero, asW_w, bnd_ok, e2, asT_bl]
  cases x <;> simp [tupIn, rowOkD]
  rename_i ys
  by_cases q : ys.length = m
  · subst q
    have c : evE ⟨T, run T wf (d + 2), wf, t, none⟩ (.comp [5] (.n 5) (.of (.var 4)) (.c (.bl true)) (.call 1 (.cons (.var 5) (.cons (.c (.int 0)) (.cons (.bin .Sub (.var 2) (.c (.int 1))) .nil)))))
      [a, b, some (.d (.int ys.length)), some (.d (.int j)), some (.d (.tup ys)), none] o = .ok (flD (ys.map fun x => .bl (isIn x 0 ((ys.length : Int) - 1)))) o := by
      refine ev_compT (by simp) (fun x hx => ?_) (by show ys.length < wf; omega) (by unfold line; omega)
      have kx : kn x = true := List.all_eq_true.mp k x hx
      simp [killAll, opD2, binD, r_within G.h0 G.h1 kx]
    have e : (ys.map fun x => D.bl (isIn x 0 ((ys.length : Int) - 1))) = (ys.map fun x => isIn x 0 ((ys.length : Int) - 1)).map .bl := by rw [List.map_map] <;> rfl
    rw [e] at c
    simp [c, all_flD, -List.map_map]
  · simp [q]
    intro h1 h2
    omega
end
end Mi.N
end
section
set_option linter.all false
set_option Elab.async false
set_option maxHeartbeats 1000000
set_option autoImplicit false
namespace Mi.N
open PySem (Str Operator CmpOp)
theorem find_map {α β : Type} (p : α → Bool) (f : α → β) : ∀ l : List α, (l.findSome? fun b => if p b then none else some (f b)) = (l.findSome? fun b => if p b then none else some b).map f
  | [] => rfl
  | x :: xs => by
    rw [List.findSome?_cons, List.findSome?_cons, find_map p f xs]
    cases p x <;> rfl
theorem coll_lst {m : Nat} {o : List Ob} (h : m ≤ line) : collR Bi.lst [.d (.int m)] o = .ok (flD (intL (List.range m))) o := by
  have q : rngOk (m : Int) = true := rng_small h
  unfold collR
  simp only [q, if_true, Int.toNat_natCast, h, rngs_int]
  rfl
theorem lst_tup (xs : List D) (o : List Ob) : opDs (biD Bi.lst) [.d (.tup xs)] o = .ok (flD xs) o := rfl
theorem lst_row (r : List Nat) (o : List Ob) : opDs (biD Bi.lst) [.d (rowD r)] o = .ok (flD (intL r)) o := rfl
theorem len_tup (xs : List D) (o : List Ob) : opDs (biD Bi.len) [.d (.tup xs)] o = .ok (.w (.d (.int xs.length))) o := rfl
theorem len_lst (xs : List D) (o : List Ob) : opDs (biD Bi.len) [.d (.lst xs)] o = .ok (.w (.d (.int xs.length))) o := rfl
/-- the place of the first nought -/
def ix0 : List Nat → Nat
  | [] => 0
  | x :: xs => if x = 0 then 0 else ix0 xs + 1
theorem index_0 : ∀ (r : List Nat) (s : Nat), 0 ∈ r → indexD (.int 0) (intL r) s = some (s + ix0 r)
  | [], s, h => by cases h
  | x :: xs, s, h => by
    show (if eqD (.int x) (.int 0) then some s else indexD (.int 0) (intL xs) (s + 1)) = _
    have e : eqD (.int x) (.int 0) = decide (x = 0) := by
      show ((x : Int) == 0) = _
      by_cases q : x = 0
      · subst q; rfl
      · have : ¬ (x : Int) = 0 := fun z => q (Int.ofNat_inj.mp z)
        simp [q, this]
    rw [e]
    by_cases q : x = 0
    · simp [q, ix0]
    · have h2 : 0 ∈ xs := by
        cases h with
        | head => exact absurd rfl q
        | tail _ z => exact z
      rw [index_0 xs (s + 1) h2]
      simp [q, ix0]
      omega
section
variable {T : Tab} {wf d : Nat} {t : Option Thk} {o : List Ob} {m : Nat} {R : List (List Nat)}
theorem init_for (G : Grp T) {rows : List D} {a : Option W} (k : knT (.tup rows) = true) (h1 : 1 ≤ rows.length) (h2 : rows.length ≤ 32) (hw : 32 < wf) :
    ∃ l : Option W, ∃ σ' : Nat → Sg, evS ⟨T, run T wf (d + 2), wf, t, none⟩ (.for (.tup (.cons (.n 3) (.cons (.n 4) .nil))) (.enum (.var 1)) [3, 5]
    (.cons (.ite (.or (.not (.call 2 (.cons (.var 4) (.cons (.var 2) (.cons (.var 2) .nil))))) (.not (.bi Bi.all (.cons (.comp [5] (.n 5) (.of (.var 4)) (.c (.bl true)) (.call 1 (.cons (.var 5) (.cons (.c (.int 0)) (.cons (.bin .Sub (.var 2) (.c (.int 1))) .nil))))) .nil))))
    (.cons (.raise 20 (.cons (.var 3) .nil))
    .nil)
    .nil)
    .nil)) [a, some (.d (.tup rows)), some (.d (.int rows.length)), none, none, none] o =
      match badRow rows.length rows with
      | some i => .exc ⟨20, [(0, .int i)]⟩ (σ' i) o
      | none => .next [a, some (.d (.tup rows)), some (.d (.int rows.length)), none, l, none] o := by
  let τ : Nat → Sg := fun j => [a, some (.d (.tup rows)), some (.d (.int rows.length)), none, (match j with | 0 => none | j + 1 => some (.d (atD rows j))), none]
  let σ' : Nat → Sg := fun j => [a, some (.d (.tup rows)), some (.d (.int rows.length)), some (.d (.int j)), some (.d (atD rows j)), none]
  refine ⟨(match rows.length with | 0 => none | j + 1 => some (.d (atD rows j))), σ', ?_⟩
  rw [evS_for]
  have hi : evI ⟨T, run T wf (d + 2), wf, t, none⟩ (.enum (.var 1)) (τ 0) o = .ok (enumI (.d (.tup rows))) o := rfl
  show bndS (evI _ _ (τ 0) o) (τ 0) _ = _
  rw [hi, bndS_ok]
  refine (forG_findT τ (src_enumT rows) (fun j => if rowOkD rows.length (atD rows j) then none else some (.exc ⟨20, [(0, .int j)]⟩ (σ' j) o)) (fun j r h => ?he) wf 0 (fun j x _ hx => ?hs) (Nat.zero_le _) ?hf).trans ?fin
  case he =>
    split at h <;> cases h
    trivial
  case hs =>
    unfold enumL at hx
    rw [List.getElem?_mapIdx] at hx
    cases q : rows[j]? with
    | none => rw [q] at hx; cases hx
    | some y =>
      rw [q] at hx
      cases hx
      have ky : knR y = true := List.all_eq_true.mp k y (List.mem_of_getElem? q)
      have hy := atD_is q
      subst hy
      have e := fun (b c : Option W) => init_row (T := T) (wf := wf) (d := d) (t := t) (o := o) G (a := a) (b := some (.d (.tup rows))) (j := j) ky h1 h2 hw
      simp [τ, bindT, bindTs, e none none, raise20 G]
      cases rowOkD rows.length (atD rows j) <;> simp [clean, killAll, under_take, σ']
  case hf =>
    unfold enumL
    rw [List.drop_zero, List.length_mapIdx]
    show rows.length < wf
    omega
  case fin =>
    have e : (enumL rows).length = rows.length := List.length_mapIdx
    rw [e, Nat.sub_zero, ← List.range_eq_range', find_map (fun j => rowOkD rows.length (atD rows j)) (fun j => SR.exc ⟨20, [(0, .int j)]⟩ (σ' j) o)]
    show ((badRow rows.length rows).map _).getD _ = _
    cases badRow rows.length rows <;> rfl
theorem init_one (S : Sq m R) (hm : 1 ≤ m) (hml : m ≤ 32) (hw : 32 < wf) {cal : Cal} {a l : Option W} :
    evE ⟨T, cal, wf, t, none⟩ (.or (.cmp .NotEq (.bi Bi.lst (.cons (.idx (.var 1) (.c (.int 0))) .nil)) (.coll Bi.lst (.cons (.var 2) .nil))) (.cmp .NotEq (.comp [4] (.n 4) (.of (.var 1)) (.c (.bl true)) (.idx (.var 4) (.c (.int 0)))) (.coll Bi.lst (.cons (.var 2) .nil))))
      [a, some (.d (tabD R)), some (.d (.int m)), none, l, none] o = .ok (.w (.d (.bl (!oneOk m R)))) o := by
  have hl : m ≤ line := by unfold line; omega
  have e0 : idxW o (.d (tabD R)) (.int 0) = some (.d (rowD (rowAt R 0))) := idx_tabD S (i := 0) (by omega)
  have c : evE ⟨T, cal, wf, t, none⟩ (.comp [4] (.n 4) (.of (.var 1)) (.c (.bl true)) (.idx (.var 4) (.c (.int 0)))) [a, some (.d (tabD R)), some (.d (.int m)), none, l, none] o =
      .ok (flD (intL (R.map fun r => nth r 0))) o := by
    have e : intL (R.map fun r => nth r 0) = (tabL R).map fun x => match x with | .tup (y :: _) => y | _ => .int 0 := by
      unfold intL tabL
      rw [List.map_map, List.map_map]
      apply List.map_congr_left
      intro r hr
      have := (S.row r hr).1
      cases r with
      | nil => simp at this; omega
      | cons y ys => rfl
    rw [e]
    refine ev_compT (by simp; rfl) (fun x hx => ?_) (by show (tabL R).length < wf; rw [tabL_len, S.len]; omega) (by rw [tabL_len, S.len]; exact hl)
    obtain ⟨r, hr, rfl⟩ := List.mem_map.mp hx
    have hlen := (S.row r hr).1
    cases r with
    | nil => simp at hlen; omega
    | cons y ys =>
      have e1 : idxW o (.d (rowD (y :: ys))) (.int 0) = some (.d (.int y)) := idx_rowD (r := y :: ys) (i := 0) (by simp)
      simp [killAll, idxR, e1]
      rfl
  simp only [ev_or, ev_cmp, ev_bi, ev_coll, ev_idx, ev_c, evA_cons, evA_nil, ev_var, List.getElem?_cons_succ, List.getElem?_cons_zero, asW_w, bnd_ok, c, asW_flD, idxR, view_d, e0, Option.map_some, okO_some, lst_row, coll_lst hl]
  have z : ∀ p q : List Nat, eqD (.lst (intL p)) (.lst (intL q)) = decide (p = q) := fun p q => eqDs_int p q
  rw [cmp_ne (plain_lint _ _) (plain_lint _ _) (fun s h => by cases h), z]
  unfold oneOk
  simp only [asT_bl, bnd_ok]
  cases decide (rowAt R 0 = List.range m)
  · rfl
  · simp only [Bool.not_true, Bool.false_eq_true, if_false, c, asW_flD, bnd_ok]
    rw [cmp_ne (plain_lint _ _) (plain_lint _ _) (fun s h => by cases h), z]
    simp
theorem in_row (r : List Nat) {cx : Cx} : cmpW cx .In (.d (.int 0)) (.d (rowD r)) o = .ok (.w (.d (.bl (decide (0 ∈ r))))) o := by
  have p : plain 60 (.lst (intL r)) = true := plain_lint _ _
  show (match cmpD .In (.int 0) (.tup (intL r)) with | some k => R.ok (wd (.bl k)) o | none => .bad) = _
  have e : cmpD .In (.int 0) (.tup (intL r)) = some (memD (.int 0) (intL r)) := by
    show (if plain 60 (.int 0) && plain 60 (.lst (intL r)) then some (memD (.int 0) (intL r)) else none) = _
    rw [p] <;> rfl
  rw [e]
  have := memD_int 0 r
  simp at this
  simp [this]
theorem init_backs (S : Sq m R) (hml : m ≤ 32) (hw : 32 < wf) {cal : Cal} {a l b c : Option W} :
    evE ⟨T, cal, wf, t, none⟩ (.not (.bi Bi.all (.cons (.comp [4] (.n 4) (.of (.var 1)) (.c (.bl true)) (.cmp .In (.c (.int 0)) (.var 4))) .nil)))
      [a, some (.d (tabD R)), b, c, l, none] o = .ok (.w (.d (.bl (!backsOk R)))) o := by
  have cc : evE ⟨T, cal, wf, t, none⟩ (.comp [4] (.n 4) (.of (.var 1)) (.c (.bl true)) (.cmp .In (.c (.int 0)) (.var 4))) [a, some (.d (tabD R)), b, c, l, none] o =
      .ok (flD ((R.map fun r => decide (0 ∈ r)).map .bl)) o := by
    have e : (R.map fun r => decide (0 ∈ r)).map D.bl = (tabL R).map fun x => match x with | .tup ys => D.bl (memD (.int 0) ys) | _ => .non := by
      unfold tabL
      rw [List.map_map, List.map_map]
      apply List.map_congr_left
      intro r hr
      have := memD_int 0 r
      simp at this
      simp [rowD, this]
    rw [e]
    refine ev_compT (by simp; rfl) (fun x hx => ?_) (by show (tabL R).length < wf; rw [tabL_len, S.len]; omega) (by rw [tabL_len, S.len]; unfold line; omega)
    obtain ⟨r, hr, rfl⟩ := List.mem_map.mp hx
    have := memD_int 0 r
    simp at this
    have e2 := fun cx => in_row (o := o) (cx := cx) r
    simp [rowD] at e2
    simp [killAll, rowD, this, e2]
  simp only [ev_not, ev_bi, evA_cons, evA_nil, cc, asW_flD, bnd_ok, all_flD, asT_bl, wd_eq]
  unfold backsOk
  rw [List.all_map]
  rfl
end
end Mi.N
end
section
set_option linter.all false
set_option Elab.async false
set_option maxHeartbeats 1000000
set_option autoImplicit false
namespace Mi.N
open PySem (Str Operator CmpOp)
/-- a group as a value -/
def groupV (m : Nat) (R : List (List Nat)) : D := .obj 0 [(1, tabD R), (2, .int m), (3, rowD (R.map ix0))]
section
variable {T : Tab} {wf d : Nat} {t : Option Thk} {o : List Ob} {m : Nat} {R : List (List Nat)}
theorem mth_index {r : List Nat} (h : 0 ∈ r) : mthR Mt.index false (.d (rowD r)) [.d (.int 0)] o = .ok (.w (.d (.int (ix0 r : Nat)))) o := by
  show okO (mthD Mt.index (intL r) [.int 0]) o = _
  have e : mthD Mt.index (intL r) [.int 0] = (indexD (.int 0) (intL r) 0).map fun i => wd (.int i) := by
    show (if (plain 60 (.int 0) && plains 59 (intL r)) = true then _ else none) = _
    rw [plains_int, if_pos rfl] <;> rfl
  rw [e, index_0 r 0 h]
  simp
theorem init_index (S : Sq m R) (hb : backsOk R = true) (hml : m ≤ 32) (hw : 32 < wf) {cal : Cal} {a l b c : Option W} :
    evE ⟨T, cal, wf, t, none⟩ (.bi Bi.tup (.cons (.comp [4] (.n 4) (.of (.var 1)) (.c (.bl true)) (.mth Mt.index (.var 4) (.cons (.c (.int 0)) .nil))) .nil))
      [a, some (.d (tabD R)), b, c, l, none] o = .ok (.w (.d (rowD (R.map ix0)))) o := by
  have cc : evE ⟨T, cal, wf, t, none⟩ (.comp [4] (.n 4) (.of (.var 1)) (.c (.bl true)) (.mth Mt.index (.var 4) (.cons (.c (.int 0)) .nil))) [a, some (.d (tabD R)), b, c, l, none] o =
      .ok (flD (intL (R.map ix0))) o := by
    have e : intL (R.map ix0) = (tabL R).map fun x => .int (ix0 (rowOf x) : Nat) := by
      unfold intL tabL
      rw [List.map_map, List.map_map]
      apply List.map_congr_left
      intro r hr
      have : rowOf (rowD r) = r := by
        show (intL r).map natOf = r
        unfold intL
        rw [List.map_map]
        have : natOf ∘ (fun k : Nat => D.int (k : Int)) = id := by funext k; simp [natOf]
        rw [this, List.map_id]
      simp [this]
    rw [e]
    refine ev_compT (by simp; rfl) (fun x hx => ?_) (by show (tabL R).length < wf; rw [tabL_len, S.len]; omega) (by rw [tabL_len, S.len]; unfold line; omega)
    obtain ⟨r, hr, rfl⟩ := List.mem_map.mp hx
    have h0 : 0 ∈ r := of_decide_eq_true (List.all_eq_true.mp hb r hr)
    have e2 := mth_index (o := o) h0
    have e3 : rowOf (rowD r) = r := by
      show (intL r).map natOf = r
      unfold intL
      rw [List.map_map]
      have : natOf ∘ (fun k : Nat => D.int (k : Int)) = id := by funext k; simp [natOf]
      rw [this, List.map_id]
    rw [e3]
    simp [killAll]
    show asW (mthR Mt.index false (.d (rowD r)) [.d (.int 0)] o) = _
    rw [e2] <;> rfl
  simp only [ev_bi, evA_cons, evA_nil, cc, asW_flD, bnd_ok, tup_flD]
  rfl
theorem rowOf_row (r : List Nat) : rowOf (rowD r) = r := by
  show (intL r).map natOf = r
  unfold intL
  rw [List.map_map]
  have : natOf ∘ (fun k : Nat => D.int (k : Int)) = id := by funext k; simp [natOf]
  rw [this, List.map_id]
/-- the fields that __init__ sets -/
def fieldsOf (m : Nat) (R : List (List Nat)) : List (Nat × W) := [(1, .d (tabD R)), (2, .d (.int m)), (3, .d (rowD (R.map ix0)))]
theorem set_set {α : Type} (o : List α) (n : Nat) (x y : α) : (o.set n x).set n y = o.set n y := List.set_set ..
theorem seta_ins {n c f : Nat} {fs : List (Nat × W)} {x : D} (h : o[n]? = some (.ins c fs)) (hl : fs.length < 500) : setaW o (.loc n) f (.d x) = some (o.set n (.ins c (putN f (.d x) fs))) := by
  unfold setaW
  simp only [h, putIn]
  rw [if_pos hl]
theorem seta_all {n c f f' f'' : Nat} {x y z : D} (h : o[n]? = some (.ins c [])) (e1 : f ≠ f') (e2 : f ≠ f'') (e3 : f' ≠ f'') :
    setaW o (.loc n) f (.d x) = some (o.set n (.ins c [(f, .d x)])) ∧ setaW (o.set n (.ins c [(f, .d x)])) (.loc n) f' (.d y) = some (o.set n (.ins c [(f, .d x), (f', .d y)])) ∧
      setaW (o.set n (.ins c [(f, .d x), (f', .d y)])) (.loc n) f'' (.d z) = some (o.set n (.ins c [(f, .d x), (f', .d y), (f'', .d z)])) := by
  have hlt : n < o.length := (List.getElem?_eq_some_iff.mp h).1
  refine ⟨seta_ins h (by decide), ?_, ?_⟩
  · rw [seta_ins (List.getElem?_set_self hlt) (by simp), List.set_set]
    simp [putN, e1]
  · rw [seta_ins (List.getElem?_set_self hlt) (by simp), List.set_set]
    simp [putN, e2, e3]
theorem r_init (G : Grp T) {x : D} {n : Nat} (k : knT x = true) (hw : 32 < wf) (hn : o[n]? = some (.ins 0 [])) :
    run T wf (d + 3) 3 t [.loc n, .d x] o = match faultG x with
      | some p => .exc ⟨20, [(0, p)]⟩ o
      | none => .ok (.w (.d .non)) (o.set n (.ins 0 (match x with | .tup rows => fieldsOf rows.length (rows.map rowOf) | _ => []))) := by
  rw [run_has G.h3 rfl]
  have e2 := r_tup (T := T) (wf := wf) (d := d + 1) (t := none) (x := x) (a := 1) (b := 32) (o := o) G.h2 (knT_kn k)
  unfold bInit
  simp only [List.map_cons, List.map_nil, List.replicate, List.cons_append, List.nil_append, Nat.reduceSub, List.append_eq]
  rw [evB_cons]
  simp only [evS_if, ev_not, ev_call, evA_cons, evA_nil, ev_var, ev_c, ev_gc, List.getElem?_cons_succ, List.getElem?_cons_zero, asW_w, bnd_ok, e2, asT_bl, bndS_ok, wd_eq]
  by_cases q : tupIn x 1 32 = true
  · cases x <;> simp only [tupIn] at q <;> first | (cases q; done) | skip
    rename_i rows
    rw [Bool.and_eq_true] at q
    have h1 : 1 ≤ rows.length := by have := of_decide_eq_true q.1; omega
    have h2 : rows.length ≤ 32 := by have := of_decide_eq_true q.2; omega
    have e3 : tupIn (.tup rows) 1 32 = true := by simp only [tupIn]; rw [q.1, q.2] <;> rfl
    obtain ⟨l, σ', ef⟩ := init_for (T := T) (wf := wf) (d := d) (t := t) (o := o) G (a := some (.loc n)) k h1 h2 hw
    simp only [e3, Bool.not_true, Bool.false_eq_true, if_false, evB_nil, thn_next]
    rw [evB_cons]
    simp only [evS_set, ev_bi, evA_cons, evA_nil, ev_var, List.getElem?_cons_succ, List.getElem?_cons_zero, asW_w, bnd_ok, len_tup, bndS_ok, thn_next, List.set_cons_succ, List.set_cons_zero]
    rw [evB_cons, ef]
    have ef1 : faultG (.tup rows) = match badRow rows.length rows with
      | some i => some (.int i)
      | none => (faultN rows.length (rows.map rowOf)).map .str := if_pos ⟨h1, h2⟩
    rw [ef1]
    cases hb : badRow rows.length rows with
    | some i => simp
    | none =>
      obtain ⟨hR, hS⟩ := rows_is rows (badRow_none hb)
      have S : Sq rows.length (rows.map rowOf) := ⟨List.length_map _, hS⟩
      have hT : D.tup rows = tabD (rows.map rowOf) := congrArg D.tup hR
      have o1 := init_one (T := T) (wf := wf) (t := t) (o := o) S h1 h2 hw (cal := run T wf (d + 2)) (a := some (.loc n)) (l := l)
      have o2 := fun c => init_backs (T := T) (wf := wf) (t := t) (o := o) S h2 hw (cal := run T wf (d + 2)) (a := some (.loc n)) (l := l) (b := some (.d (.int rows.length))) (c := c)
      have o3 := r_goes (T := T) (wf := wf) (d := d + 1) (t := none) (o := o) G.h5 S (by omega) (by unfold line; omega)
      rw [← hT] at o1 o2 o3
      simp only [thn_next]
      rw [evB_cons]
      simp only [evS_if, o1, asT_bl, bndS_ok]
      unfold faultN
      cases h1' : oneOk rows.length (rows.map rowOf) with
      | false => simp [raise20 G]; rfl
      | true =>
        simp only [Bool.not_true, Bool.false_eq_true, if_false, if_true, evB_nil, thn_next]
        rw [evB_cons]
        simp only [evS_if, o2, asT_bl, bndS_ok]
        cases h2' : backsOk (rows.map rowOf) with
        | false => simp [raise20 G]; rfl
        | true =>
          have o4 := fun c o => init_index (T := T) (wf := wf) (t := t) (o := o) S h2' h2 hw (cal := run T wf (d + 2)) (a := some (.loc n)) (l := l) (b := some (.d (.int rows.length))) (c := c)
          rw [← hT] at o4
          simp only [Bool.not_true, Bool.false_eq_true, if_false, if_true, evB_nil, thn_next]
          rw [evB_cons]
          simp only [evS_if, ev_not, ev_call, evA_cons, evA_nil, ev_var, List.getElem?_cons_succ, List.getElem?_cons_zero, asW_w, bnd_ok, o3, asT_bl, bndS_ok, wd_eq]
          cases h3' : goesB rows.length (rows.map rowOf) with
          | false => simp [raise20 G]; rfl
          | true =>
            obtain ⟨p1, p2, p3⟩ := seta_all (o := o) (f := 1) (f' := 2) (f'' := 3) (x := .tup rows) (y := .int rows.length) (z := rowD ((rows.map rowOf).map ix0)) hn (by decide) (by decide) (by decide)
            simp only [Bool.not_true, Bool.false_eq_true, if_false, evB_nil, thn_next]
            rw [evB_cons]
            simp only [evS_seta, ev_var, List.getElem?_cons_succ, List.getElem?_cons_zero, asW_w, bndS_ok, p1, oS, thn_next]
            rw [evB_cons]
            simp only [evS_seta, ev_var, List.getElem?_cons_succ, List.getElem?_cons_zero, asW_w, bndS_ok, p2, oS, thn_next]
            rw [evB_cons]
            simp only [evS_seta, o4, ev_var, List.getElem?_cons_succ, List.getElem?_cons_zero, asW_w, bndS_ok, p3, oS, thn_next, evB_nil, retR_next]
            have hl : (o.set n (Ob.ins 0 [(1, W.d (.tup rows)), (2, .d (.int rows.length)), (3, .d (rowD ((rows.map rowOf).map ix0)))])).length = o.length := List.length_set
            rw [← hl, takeL]
            simp only [if_true, Option.map_none, fieldsOf, ← hT]
  · have e3 : tupIn x 1 32 = false := by simpa using q
    simp only [e3, Bool.not_false, if_true]
    have ef1 : faultG x = some (.str sTable) := by
      cases x <;> first | rfl | skip
      rename_i rows
      refine if_neg fun z => ?_
      simp only [tupIn, Bool.and_eq_false_iff, decide_eq_false_iff_not] at e3
      omega
    rw [ef1]
    simp [raise20 G]
    rfl
end
end Mi.N
end
section
set_option linter.all false
set_option Elab.async false
set_option maxHeartbeats 1000000
set_option autoImplicit false
namespace Mi.N
open PySem (Str Operator CmpOp)
/-- the group that a table makes -/
def gV : D → D
  | .tup rows => groupV rows.length (rows.map rowOf)
  | _ => .non
section
variable {T : Tab} {wf d : Nat} {t : Option Thk} {cur : Option Ex} {o : List Ob} {m : Nat} {R : List (List Nat)}
theorem mk_group (G : Grp T) {x : D} (k : knT x = true) (hw : 32 < wf) : mkR ⟨T, run T wf (d + 3), wf, t, cur⟩ 0 [.d x] o = match faultG x with
    | some p => .exc ⟨20, [(0, p)]⟩ o
    | none => .ok (.w (.d (gV x))) o := by
  obtain ⟨e, hc⟩ := G.c0
  have hn : (o ++ [Ob.ins 0 []])[o.length]? = some (.ins 0 []) := by simp
  have r := r_init (wf := wf) (d := d) (t := none) G k hw hn
  have e1 : mkR ⟨T, run T wf (d + 3), wf, t, cur⟩ 0 [.d x] o = (match run T wf (d + 3) 3 none [.loc o.length, .d x] (o ++ [.ins 0 []]) with
    | .ok (.w (.d .non)) o2 => if false then .ok (.w (.loc o.length)) (o2.take (o.length + 1)) else match o2[o.length]? with
      | some (.ins c' fs) => match allDfs fs with
        | some gs => .ok (.w (.d (.obj c' gs))) (o2.take o.length)
        | none => .bad
      | _ => .bad
    | .ok _ _ => .bad
    | .exc e o2 => .exc e (o2.take o.length)
    | .bad => .bad : R Val) := by
    unfold mkR
    rw [hc] <;> rfl
  rw [e1, r]
  cases hf : faultG x with
  | some p => simp
  | none =>
    cases x <;> first | (cases hf; done) | skip
    rename_i rows
    simp [fieldsOf, allDfs, gV, groupV]
/-- a good table -/
structure Good (m : Nat) (R : List (List Nat)) : Prop where
  lo : 1 ≤ m
  hi : m ≤ 32
  sq : Sq m R
  ok : faultN m R = none
theorem mapRow (R : List (List Nat)) : (tabL R).map rowOf = R := by
  unfold tabL
  rw [List.map_map]
  have : rowOf ∘ rowD = id := by funext r; exact rowOf_row r
  rw [this, List.map_id]
theorem rowOk_row {r : List Nat} (h1 : r.length = m) (h2 : ∀ k ∈ r, k < m) : rowOkD m (rowD r) = true := by
  show (decide ((intL r).length = m) && _) = true
  rw [intL_len, Bool.and_eq_true]
  refine ⟨decide_eq_true h1, List.all_eq_true.mpr fun x hx => ?_⟩
  obtain ⟨k, hk, rfl⟩ := List.mem_map.mp hx
  have := h2 k hk
  simp [isIn]
  omega
theorem badRow_tab (S : Sq m R) : badRow m (tabL R) = none := by
  unfold badRow
  rw [List.findSome?_eq_none_iff]
  intro i hi
  have hi2 : i < R.length := by simpa using hi
  have : atD (tabL R) i = rowD R[i] := (atD_is (by rw [tabL_get, List.getElem?_eq_getElem hi2] <;> rfl)).symm
  rw [this]
  have q := S.row R[i] (List.getElem_mem _)
  rw [rowOk_row q.1 q.2] <;> rfl
theorem Good.fault (g : Good m R) : faultG (tabD R) = none := by
  have e : faultG (tabD R) = if 1 ≤ (tabL R).length ∧ (tabL R).length ≤ 32 then match badRow (tabL R).length (tabL R) with
    | some i => some (.int i)
    | none => (faultN (tabL R).length ((tabL R).map rowOf)).map .str
    else some (.str sTable) := rfl
  rw [e, mapRow, tabL_len, g.sq.len, if_pos ⟨g.lo, g.hi⟩, badRow_tab g.sq, g.ok] <;> rfl
theorem Good.gv (g : Good m R) : gV (tabD R) = groupV m R := by
  show groupV (tabL R).length ((tabL R).map rowOf) = _
  rw [mapRow, tabL_len, g.sq.len]
theorem kn_intL (r : List Nat) : (intL r).all kn = true := List.all_eq_true.mpr fun x hx => by
  obtain ⟨k, hk, rfl⟩ := List.mem_map.mp hx
  rfl
theorem kn_tab (R : List (List Nat)) : knT (tabD R) = true := List.all_eq_true.mpr fun x hx => by
  obtain ⟨k, hk, rfl⟩ := List.mem_map.mp hx
  exact kn_intL k
theorem mk_good (G : Grp T) (g : Good m R) (hw : 32 < wf) : mkR ⟨T, run T wf (d + 3), wf, t, cur⟩ 0 [.d (tabD R)] o = .ok (.w (.d (groupV m R))) o := by
  rw [mk_group G (kn_tab R) hw, g.fault, g.gv]
/-! ### one group is another -/
def bEq : B := .cons (.ret (.and (.iso 0 (.var 1)) (.cmp .Eq (.attr (.var 0) 1) (.attr (.var 1) 1)))) .nil
theorem r_eq {m' : Nat} {R' : List (List Nat)} (h4 : Has T 4 ⟨2, 2, bEq⟩) : run T wf (d + 1) 4 t [.d (groupV m R), .d (groupV m' R')] o = .ok (.w (.d (.bl (decide (R = R'))))) o := by
  rw [run_has h4 rfl]
  have e : ∀ (cx : Cx), cmpW cx .Eq (.d (tabD R)) (.d (tabD R')) o = .ok (.w (.d (.bl (decide (R = R'))))) o := fun cx => by
    rw [cmp_eq (plain_tab _ _) (plain_tab _ _) (fun s h => by cases h)]
    have : eqD (tabD R) (tabD R') = decide (R = R') := eqDs_tab R R'
    rw [this]
  simp [bEq, isoW, isoD, groupV, attrW, lookN, e]
theorem r_eqNo {x : D} (h4 : Has T 4 ⟨2, 2, bEq⟩) (hx : isoD 0 x = some false) : run T wf (d + 1) 4 t [.d (groupV m R), .d x] o = .ok (.w (.d (.bl false))) o := by
  rw [run_has h4 rfl]
  simp [bEq, isoW, hx]
theorem cmp_own {cal : Cal} {x : D} {k neg : Bool} (hc : ∃ i m' x', T.cl 0 = some ⟨i, some 4, m', x'⟩) (h : cal 4 none [.d (groupV m R), .d x] o = .ok (.w (.d (.bl k))) o) (hg : ∀ n, x ≠ .glo n) :
    cmpW ⟨T, cal, wf, t, cur⟩ (if neg then .NotEq else .Eq) (.d (groupV m R)) (.d x) o = .ok (.w (.d (.bl (if neg then !k else k)))) o := by
  obtain ⟨i, m', x', hc⟩ := hc
  have e : ∀ z : D, deep o 60 (.d z) = some z := fun z => rfl
  have ow : ∀ ng : Bool, eqOwn ⟨T, cal, wf, t, cur⟩ ng 0 (.d (groupV m R)) (.d x) o = .ok (.w (.d (.bl (if ng then !k else k)))) o := fun ng => by
    unfold eqOwn
    simp only [hc, h]
  cases neg
  · rw [if_neg (by simp)]
    unfold cmpW
    simp only [e]
    cases x <;> first | exact absurd rfl (hg _) | exact ow false
  · rw [if_pos rfl]
    unfold cmpW
    simp only [e]
    cases x <;> first | exact absurd rfl (hg _) | exact ow true
/-! ### try -/
theorem evS_try {cx : Cx} {b h : B} {c : Nat} {slot : Option Nat} {σ : Sg} : evS cx (.try b c slot h) σ o = (match evB cx b σ o with
    | .exc x σ1 o1 => if cx.tab.sub x.c c then
        match slot with
        | some i => if i < σ1.length then match evB { cx with cur := some x } h (σ1.set i none) o1 with
            | .next σ3 o3 => .next (σ3.set i none) o3
            | .ret v o3 => .ret v o3
            | _ => .bad else .bad
        | none => match evB { cx with cur := none } h σ1 o1 with
            | .next σ3 o3 => .next σ3 o3
            | .ret v o3 => .ret v o3
            | _ => .bad
      else .exc x σ1 o1
    | r => r) := Eq.trans rfl rfl
def bIsTable : B :=
    (.cons (.try (.cons (.ex (.mk 0 (.cons (.var 0) .nil)))
    .nil) 20 none
    (.cons (.ret (.c (.bl false)))
    .nil))
    (.cons (.ret (.c (.bl true)))
    .nil))
def subB (k c : Nat) : Bool := k == c || c == 90 || c == 91
theorem r_isTable (G : Grp T) (hs : T.sub = subB) (h9 : Has T 9 ⟨1, 1, bIsTable⟩) {x : D} (k : knT x = true) (hw : 32 < wf) :
    run T wf (d + 4) 9 t [.d x] o = .ok (.w (.d (.bl (faultG x).isNone))) o := by
  rw [run_has h9 rfl]
  unfold bIsTable
  have e := fun cur => mk_group (T := T) (wf := wf) (d := d) (t := t) (cur := cur) (o := o) G k hw
  rw [evB_cons, evS_try]
  cases hf : faultG x <;> simp [e, hf, hs, subB]
def bMade : B :=
    (.cons (.try (.cons (.ex (.mk 0 (.cons (.var 0) .nil)))
    .nil) 20 (some 1)
    (.cons (.ret (.ite (.exis 1 90) (.exat 1 0) (.c (.str (PySem.Str.ofString "odd")))))
    .nil))
    (.cons (.ret (.c .non))
    .nil))
theorem r_made {i : Nat} (G : Grp T) (hs : T.sub = subB) (h : Has T i ⟨1, 2, bMade⟩) {x : D} (k : knT x = true) (hw : 32 < wf) :
    run T wf (d + 4) i t [.d x] o = .ok (.w (.d ((faultG x).getD .non))) o := by
  rw [run_has h rfl]
  unfold bMade
  have e := fun cur => mk_group (T := T) (wf := wf) (d := d) (t := t) (cur := cur) (o := o) G k hw
  rw [evB_cons, evS_try]
  cases hf : faultG x <;> simp [e, hf, hs, subB, lookN]
end
end Mi.N
end
section
set_option linter.all false
set_option Elab.async false
set_option maxHeartbeats 1000000
set_option autoImplicit false
namespace Mi.N
open PySem (Str Operator CmpOp)
theorem cmp_ne_int {cx : Cx} {i j : Int} {o : List Ob} : cmpW cx .NotEq (.d (.int i)) (.d (.int j)) o = .ok (.w (.d (.bl (!decide (i = j))))) o :=
  (cmp_ne (x := .int i) (y := .int j) rfl rfl (fun s h => by cases h)).trans rfl
theorem cmp_eq_int {cx : Cx} {i j : Int} {o : List Ob} : cmpW cx .Eq (.d (.int i)) (.d (.int j)) o = .ok (.w (.d (.bl (decide (i = j))))) o :=
  (cmp_eq (x := .int i) (y := .int j) rfl rfl (fun s h => by cases h)).trans rfl
def bIsRow : B :=
    (.cons (.ite (.or (.not (.isi Bi.isTup (.var 0))) (.cmp .NotEq (.bi Bi.len (.cons (.var 0) .nil)) (.var 1)))
    (.cons (.ret (.c (.bl false)))
    .nil)
    .nil)
    (.cons (.ret (.bi Bi.all (.cons (.comp [2] (.n 2) (.of (.var 0)) (.c (.bl true)) (.and (.isi Bi.isInt (.var 2)) (.and (.not (.isi Bi.isBool (.var 2))) (.chain .LtE .Lt (.c (.int 0)) (.var 2) (.var 1))))) .nil)))
    .nil))
section
variable {T : Tab} {wf d : Nat} {t : Option Thk} {cur : Option Ex} {o : List Ob} {m : Nat} {R : List (List Nat)}
theorem r_isRow {i : Nat} {x : D} (h : Has T i ⟨2, 3, bIsRow⟩) (k : knR x = true) (hm : m ≤ 32) (hw : 32 < wf) :
    run T wf (d + 1) i t [.d x, .d (.int m)] o = .ok (.w (.d (.bl (rowOkD m x)))) o := by
  rw [run_has h rfl]
  cases x <;> first | (simp [bIsRow, isiW, isiD, kn, knR, rowOkD, Bi.isInt, Bi.isBool, Bi.isStr, Bi.isTup, Bi.isLst]; done) | (simp [knR, kn, isiD] at k; done) | skip
  rename_i ys
  by_cases q : ys.length = m
  · subst q
    have c : ∀ b, evE ⟨T, run T wf d, wf, t, none⟩ (.comp [2] (.n 2) (.of (.var 0)) (.c (.bl true)) (.and (.isi Bi.isInt (.var 2)) (.and (.not (.isi Bi.isBool (.var 2))) (.chain .LtE .Lt (.c (.int 0)) (.var 2) (.var 1)))))
      [some (.d (.tup ys)), some (.d (.int ys.length)), b] o = .ok (flD (ys.map fun x => .bl (isIn x 0 ((ys.length : Int) - 1)))) o := fun b => by
      refine ev_compT (by simp) (fun x hx => ?_) (by show ys.length < wf; omega) (by unfold line; omega)
      have kx : kn x = true := List.all_eq_true.mp k x hx
      cases x <;> first | (simp [killAll, isiW, isiD, isIn, Bi.isInt, Bi.isBool, Bi.isStr, Bi.isTup, Bi.isLst]; done) | (simp [kn, isiD] at kx; done) | skip
      rename_i z
      simp [killAll, isiW, isiD, isIn, Bi.isInt, Bi.isBool, cmpW, cmpD]
      by_cases q : 0 ≤ z
      · have e : decide (z ≤ (ys.length : Int) - 1) = decide (z < (ys.length : Int)) := decide_eq_decide.mpr (by omega)
        simp [q, e]
      · simp [q]
    have e : (ys.map fun x => D.bl (isIn x 0 ((ys.length : Int) - 1))) = (ys.map fun x => isIn x 0 ((ys.length : Int) - 1)).map .bl := by rw [List.map_map] <;> rfl
    simp only [e] at c
    simp [bIsRow, c, isiW, isiD, Bi.isTup, Bi.isBool, Bi.isInt, len_tup, cmp_ne_int, all_flD, -List.map_map, rowOkD]
  · have q2 : ¬ (ys.length : Int) = m := fun z => q (Int.ofNat_inj.mp z)
    simp [bIsRow, isiW, isiD, Bi.isTup, len_tup, cmp_ne_int, rowOkD, q, q2]
end
/-! ### the law's own look at a table, and the program's -/
theorem nth_range {m i : Nat} (h : i < m) : nth (List.range m) i = i := by
  rw [nth_eq, List.getD_eq_getElem?_getD, List.getElem?_range h] <;> rfl
theorem row_ext {a b : List Nat} (h : a.length = b.length) (e : ∀ i < a.length, nth a i = nth b i) : a = b := by
  apply List.ext_getElem h
  intro i h1 h2
  have := e i h1
  rw [nth_eq, nth_eq, List.getD_eq_getElem?_getD, List.getD_eq_getElem?_getD, List.getElem?_eq_getElem h1, List.getElem?_eq_getElem h2] at this
  exact this
theorem nth_map {r : List Nat} {f : Nat → Nat} {i : Nat} (h : i < r.length) : nth (r.map f) i = f (nth r i) := by
  rw [nth_eq, nth_eq, List.getD_eq_getElem?_getD, List.getD_eq_getElem?_getD, List.getElem?_map, List.getElem?_eq_getElem h] <;> rfl
theorem nth_mapR {R : List (List Nat)} {f : List Nat → Nat} {i : Nat} (h : i < R.length) : nth (R.map f) i = f (rowAt R i) := by
  rw [nth_eq, rowAt_eq, List.getD_eq_getElem?_getD, List.getD_eq_getElem?_getD, List.getElem?_map, List.getElem?_eq_getElem h] <;> rfl
theorem nth_lt {m : Nat} {R : List (List Nat)} (S : Sq m R) {a b : Nat} (ha : a < m) (hb : b < m) : nth (rowAt R a) b < m :=
  getD_lt (S.row _ (S.get ha)).2 (by rw [S.getl ha]; exact hb)
def oneB (m : Nat) (R : List (List Nat)) : Bool := (List.range m).all fun i => decide (nth (rowAt R 0) i = i) && decide (nth (rowAt R i) 0 = i)
theorem one_is {m : Nat} {R : List (List Nat)} (S : Sq m R) (hm : 1 ≤ m) : oneOk m R = oneB m R := by
  rw [Bool.eq_iff_iff]
  unfold oneOk oneB
  rw [Bool.and_eq_true, decide_eq_true_eq, decide_eq_true_eq, List.all_eq_true]
  constructor
  · rintro ⟨h1, h2⟩ i hi
    have hi := List.mem_range.mp hi
    rw [Bool.and_eq_true, decide_eq_true_eq, decide_eq_true_eq]
    refine ⟨by rw [h1, nth_range hi], ?_⟩
    rw [← nth_mapR (f := fun r => nth r 0) (by rw [S.len]; exact hi), h2, nth_range hi]
  · intro h
    have h2 : ∀ i < m, nth (rowAt R 0) i = i ∧ nth (rowAt R i) 0 = i := fun i hi => by
      have := h i (List.mem_range.mpr hi)
      rw [Bool.and_eq_true, decide_eq_true_eq, decide_eq_true_eq] at this
      exact this
    have l0 := S.getl (i := 0) (by omega)
    refine ⟨row_ext (by rw [l0, List.length_range]) fun i hi => ?_, row_ext (by rw [List.length_map, S.len, List.length_range]) fun i hi => ?_⟩
    · rw [l0] at hi
      rw [nth_range hi, (h2 i hi).1]
    · rw [List.length_map, S.len] at hi
      rw [nth_range hi, nth_mapR (by rw [S.len]; exact hi), (h2 i hi).2]
def threeB (m : Nat) (R : List (List Nat)) (a b : Nat) : Bool := (List.range m).all fun c => decide (nth (rowAt R (nth (rowAt R a) b)) c = nth (rowAt R a) (nth (rowAt R b) c))
theorem goes_is {m : Nat} {R : List (List Nat)} (S : Sq m R) : goesB m R = (List.range m).all fun a => (List.range m).all fun b => threeB m R a b := by
  rw [Bool.eq_iff_iff]
  unfold goesB goesRow
  rw [List.all_eq_true, List.all_eq_true]
  refine forall_congr' fun a => forall_congr' fun ha => ?_
  have ha := List.mem_range.mp ha
  rw [List.all_eq_true, List.all_eq_true]
  refine forall_congr' fun b => forall_congr' fun hb => ?_
  have hb := List.mem_range.mp hb
  have hab := nth_lt S ha hb
  unfold threeB
  rw [decide_eq_true_eq, List.all_eq_true]
  have lb := S.getl hb
  have lab := S.getl hab
  constructor
  · intro h c hc
    have hc := List.mem_range.mp hc
    rw [decide_eq_true_eq, ← h, nth_map (by rw [lb]; exact hc)]
  · intro h
    refine row_ext (by rw [List.length_map, lb, lab]) fun c hc => ?_
    rw [List.length_map, lb] at hc
    have := h c (List.mem_range.mpr hc)
    rw [decide_eq_true_eq] at this
    rw [nth_map (by rw [lb]; exact hc), this]
end Mi.N
end
section
set_option linter.all false
set_option Elab.async false
set_option maxHeartbeats 1000000
set_option autoImplicit false
namespace Mi.N
open PySem (Str Operator CmpOp)
def bThree : B := (.cons (.ite (.bi Bi.any (.cons (.comp [7] (.n 7) (.range (.cons (.var 1) .nil)) (.c (.bl true)) (.cmp .NotEq (.idx (.idx (.var 0) (.idx (.idx (.var 0) (.var 5)) (.var 6))) (.var 7)) (.idx (.idx (.var 0) (.var 5)) (.idx (.idx (.var 0) (.var 6)) (.var 7))))) .nil))
    (.cons (.ret (.c (.str (PySem.Str.ofString "threes"))))
    .nil)
    .nil)
    .nil)
def bFault (iRow : Nat) : B :=
    (.cons (.ite (.or (.not (.isi Bi.isTup (.var 0))) (.not (.chain .LtE .LtE (.c (.int 1)) (.bi Bi.len (.cons (.var 0) .nil)) (.c (.int 32)))))
    (.cons (.ret (.c (.str (PySem.Str.ofString "table"))))
    .nil)
    .nil)
    (.cons (.set 1 (.bi Bi.len (.cons (.var 0) .nil)))
    (.cons (.for (.tup (.cons (.n 2) (.cons (.n 3) .nil))) (.enum (.var 0)) [2]
    (.cons (.ite (.not (.call iRow (.cons (.var 3) (.cons (.var 1) .nil))))
    (.cons (.ret (.var 2))
    .nil)
    .nil)
    .nil))
    (.cons (.ite (.bi Bi.any (.cons (.comp [4] (.n 4) (.range (.cons (.var 1) .nil)) (.c (.bl true)) (.or (.cmp .NotEq (.idx (.idx (.var 0) (.c (.int 0))) (.var 4)) (.var 4)) (.cmp .NotEq (.idx (.idx (.var 0) (.var 4)) (.c (.int 0))) (.var 4)))) .nil))
    (.cons (.ret (.c (.str (PySem.Str.ofString "one"))))
    .nil)
    .nil)
    (.cons (.ite (.bi Bi.any (.cons (.comp [3] (.n 3) (.of (.var 0)) (.c (.bl true)) (.cmp .NotIn (.c (.int 0)) (.var 3))) .nil))
    (.cons (.ret (.c (.str (PySem.Str.ofString "backs"))))
    .nil)
    .nil)
    (.cons (.for (.n 5) (.range (.cons (.var 1) .nil)) [5, 6, 7]
    (.cons (.for (.n 6) (.range (.cons (.var 1) .nil)) [6, 7] bThree)
    .nil))
    (.cons (.ret (.c .non))
    .nil)))))))
section
variable {T : Tab} {wf d : Nat} {t : Option Thk} {cur : Option Ex} {o : List Ob} {m : Nat} {R : List (List Nat)} {cal : Cal}
theorem fault_rows {iRow : Nat} (h19 : Has T iRow ⟨2, 3, bIsRow⟩) {rows : List D} (k : knT (.tup rows) = true) (h2 : rows.length ≤ 32) (hw : 32 < wf) :
    ∃ l : Option W, evS ⟨T, run T wf (d + 1), wf, t, none⟩ (.for (.tup (.cons (.n 2) (.cons (.n 3) .nil))) (.enum (.var 0)) [2]
    (.cons (.ite (.not (.call iRow (.cons (.var 3) (.cons (.var 1) .nil))))
    (.cons (.ret (.var 2))
    .nil)
    .nil)
    .nil)) [some (.d (.tup rows)), some (.d (.int rows.length)), none, none, none, none, none, none] o =
      match badRow rows.length rows with
      | some i => .ret (.w (.d (.int i))) o
      | none => .next [some (.d (.tup rows)), some (.d (.int rows.length)), none, l, none, none, none, none] o := by
  let τ : Nat → Sg := fun j => [some (.d (.tup rows)), some (.d (.int rows.length)), none, (match j with | 0 => none | j + 1 => some (.d (atD rows j))), none, none, none, none]
  refine ⟨(match rows.length with | 0 => none | j + 1 => some (.d (atD rows j))), ?_⟩
  rw [evS_for]
  have hi : evI ⟨T, run T wf (d + 1), wf, t, none⟩ (.enum (.var 0)) (τ 0) o = .ok (enumI (.d (.tup rows))) o := rfl
  show bndS (evI _ _ (τ 0) o) (τ 0) _ = _
  rw [hi, bndS_ok]
  refine (forG_findT τ (src_enumT rows) (fun j => if rowOkD rows.length (atD rows j) then none else some (.ret (.w (.d (.int j))) o)) (fun j r h => ?he) wf 0 (fun j x _ hx => ?hs) (Nat.zero_le _) ?hf).trans ?fin
  case he =>
    split at h <;> cases h
    trivial
  case hs =>
    unfold enumL at hx
    rw [List.getElem?_mapIdx] at hx
    cases q : rows[j]? with
    | none => rw [q] at hx; cases hx
    | some y =>
      rw [q] at hx
      cases hx
      have ky : knR y = true := List.all_eq_true.mp k y (List.mem_of_getElem? q)
      have hy := atD_is q
      subst hy
      have e := r_isRow (T := T) (wf := wf) (d := d) (t := none) (o := o) h19 ky h2 hw
      simp [τ, bindT, bindTs, e]
      cases rowOkD rows.length (atD rows j) <;> simp [clean, killAll, under_take]
  case hf =>
    unfold enumL
    rw [List.drop_zero, List.length_mapIdx]
    show rows.length < wf
    omega
  case fin =>
    have e : (enumL rows).length = rows.length := List.length_mapIdx
    rw [e, Nat.sub_zero, ← List.range_eq_range', find_map (fun j => rowOkD rows.length (atD rows j)) (fun j : Nat => SR.ret (.w (.d (.int j))) o)]
    show ((badRow rows.length rows).map _).getD _ = _
    cases badRow rows.length rows <;> rfl
theorem any_not (m : Nat) (p : Nat → Bool) : (((List.range m).map fun i => !p i).any id) = !(List.range m).all p := by
  rw [List.any_map, List.not_all_eq_any_not]
  rfl
theorem fault_one (S : Sq m R) (hm : 1 ≤ m) (hml : m ≤ 32) (hw : 32 < wf) {l a b c : Option W} :
    evE ⟨T, cal, wf, t, none⟩ (.bi Bi.any (.cons (.comp [4] (.n 4) (.range (.cons (.var 1) .nil)) (.c (.bl true)) (.or (.cmp .NotEq (.idx (.idx (.var 0) (.c (.int 0))) (.var 4)) (.var 4)) (.cmp .NotEq (.idx (.idx (.var 0) (.var 4)) (.c (.int 0))) (.var 4)))) .nil))
      [some (.d (tabD R)), some (.d (.int m)), none, l, none, a, b, c] o = .ok (.w (.d (.bl (!oneB m R)))) o := by
  have cc : evE ⟨T, cal, wf, t, none⟩ (.comp [4] (.n 4) (.range (.cons (.var 1) .nil)) (.c (.bl true)) (.or (.cmp .NotEq (.idx (.idx (.var 0) (.c (.int 0))) (.var 4)) (.var 4)) (.cmp .NotEq (.idx (.idx (.var 0) (.var 4)) (.c (.int 0))) (.var 4)))) [some (.d (tabD R)), some (.d (.int m)), none, l, none, a, b, c] o =
      .ok (flD (((List.range m).map fun i => !(decide (nth (rowAt R 0) i = i) && decide (nth (rowAt R i) 0 = i))).map .bl)) o := by
    rw [List.map_map]
    refine ev_compR (by simp) (fun i hi => ?_) (by show m < wf; omega) (by unfold line; omega)
    have e1 : idxW o (.d (tabD R)) (.int 0) = some (.d (rowD (rowAt R 0))) := idx_tabD S (i := 0) (by omega)
    have e2 : idxW o (.d (rowD (rowAt R 0))) (.int i) = some (.d (.int (nth (rowAt R 0) i : Nat))) := idx_rowD (by rw [S.getl (by omega)]; exact hi)
    have e3 : idxW o (.d (rowD (rowAt R i))) (.int 0) = some (.d (.int (nth (rowAt R i) 0 : Nat))) := idx_rowD (r := rowAt R i) (i := 0) (by rw [S.getl hi]; omega)
    simp [killAll, idxR, e1, e2, e3, idx_tabD S hi, cmp_ne_int, Int.ofNat_inj]
    by_cases q : nth (rowAt R 0) i = i <;> simp [q]
  simp only [ev_bi, evA_cons, evA_nil, cc, asW_flD, bnd_ok, any_flD, any_not]
  rfl
theorem notin_row (r : List Nat) {cx : Cx} : cmpW cx .NotIn (.d (.int 0)) (.d (rowD r)) o = .ok (.w (.d (.bl (!decide (0 ∈ r))))) o := by
  have p : plain 60 (.lst (intL r)) = true := plain_lint _ _
  show (match cmpD .NotIn (.int 0) (.tup (intL r)) with | some k => R.ok (wd (.bl k)) o | none => .bad) = _
  have e : cmpD .NotIn (.int 0) (.tup (intL r)) = some (!memD (.int 0) (intL r)) := by
    show (if plain 60 (.int 0) && plain 60 (.lst (intL r)) then some (!memD (.int 0) (intL r)) else none) = _
    rw [p] <;> rfl
  rw [e]
  have := memD_int 0 r
  simp at this
  simp [this]
theorem fault_backs (S : Sq m R) (hml : m ≤ 32) (hw : 32 < wf) {l a b c e f g : Option W} :
    evE ⟨T, cal, wf, t, none⟩ (.bi Bi.any (.cons (.comp [3] (.n 3) (.of (.var 0)) (.c (.bl true)) (.cmp .NotIn (.c (.int 0)) (.var 3))) .nil))
      [some (.d (tabD R)), a, b, l, c, e, f, g] o = .ok (.w (.d (.bl (!backsOk R)))) o := by
  have cc : evE ⟨T, cal, wf, t, none⟩ (.comp [3] (.n 3) (.of (.var 0)) (.c (.bl true)) (.cmp .NotIn (.c (.int 0)) (.var 3))) [some (.d (tabD R)), a, b, l, c, e, f, g] o =
      .ok (flD ((R.map fun r => !decide (0 ∈ r)).map .bl)) o := by
    have e : (R.map fun r => !decide (0 ∈ r)).map D.bl = (tabL R).map fun x => match x with | .tup ys => D.bl (!memD (.int 0) ys) | _ => .non := by
      unfold tabL
      rw [List.map_map, List.map_map]
      apply List.map_congr_left
      intro r hr
      have := memD_int 0 r
      simp at this
      simp [rowD, this]
    rw [e]
    refine ev_compT (by simp; rfl) (fun x hx => ?_) (by show (tabL R).length < wf; rw [tabL_len, S.len]; omega) (by rw [tabL_len, S.len]; unfold line; omega)
    obtain ⟨r, hr, rfl⟩ := List.mem_map.mp hx
    have := memD_int 0 r
    simp at this
    have e2 := fun cx => notin_row (o := o) (cx := cx) r
    simp [rowD] at e2
    simp [killAll, rowD, this, e2]
  simp only [ev_bi, evA_cons, evA_nil, cc, asW_flD, bnd_ok, any_flD]
  unfold backsOk
  rw [List.any_map, List.not_all_eq_any_not]
  rfl
theorem fault_three (S : Sq m R) (hml : m ≤ 32) (hw : 32 < wf) {a b : Nat} (ha : a < m) (hb : b < m) {e f g k : Option W} :
    evE ⟨T, cal, wf, t, none⟩ (.bi Bi.any (.cons (.comp [7] (.n 7) (.range (.cons (.var 1) .nil)) (.c (.bl true)) (.cmp .NotEq (.idx (.idx (.var 0) (.idx (.idx (.var 0) (.var 5)) (.var 6))) (.var 7)) (.idx (.idx (.var 0) (.var 5)) (.idx (.idx (.var 0) (.var 6)) (.var 7))))) .nil))
      [some (.d (tabD R)), some (.d (.int m)), e, f, g, some (.d (.int a)), some (.d (.int b)), k] o = .ok (.w (.d (.bl (!threeB m R a b)))) o := by
  have cc : evE ⟨T, cal, wf, t, none⟩ (.comp [7] (.n 7) (.range (.cons (.var 1) .nil)) (.c (.bl true)) (.cmp .NotEq (.idx (.idx (.var 0) (.idx (.idx (.var 0) (.var 5)) (.var 6))) (.var 7)) (.idx (.idx (.var 0) (.var 5)) (.idx (.idx (.var 0) (.var 6)) (.var 7))))) [some (.d (tabD R)), some (.d (.int m)), e, f, g, some (.d (.int a)), some (.d (.int b)), k] o =
      .ok (flD (((List.range m).map fun c => !decide (nth (rowAt R (nth (rowAt R a) b)) c = nth (rowAt R a) (nth (rowAt R b) c))).map .bl)) o := by
    rw [List.map_map]
    refine ev_compR (by simp) (fun c hc => ?_) (by show m < wf; omega) (by unfold line; omega)
    have hab := nth_lt S ha hb
    have hbc := nth_lt S hb hc
    have e2 : idxW o (.d (rowD (rowAt R a))) (.int b) = some (.d (.int (nth (rowAt R a) b : Nat))) := idx_rowD (by rw [S.getl ha]; exact hb)
    have e3 : idxW o (.d (rowD (rowAt R b))) (.int c) = some (.d (.int (nth (rowAt R b) c : Nat))) := idx_rowD (by rw [S.getl hb]; exact hc)
    have e4 : idxW o (.d (rowD (rowAt R (nth (rowAt R a) b)))) (.int c) = some (.d (.int (nth (rowAt R (nth (rowAt R a) b)) c : Nat))) := idx_rowD (by rw [S.getl hab]; exact hc)
    have e5 : idxW o (.d (rowD (rowAt R a))) (.int (nth (rowAt R b) c : Nat)) = some (.d (.int (nth (rowAt R a) (nth (rowAt R b) c) : Nat))) := idx_rowD (by rw [S.getl ha]; exact hbc)
    simp [killAll, idxR, e2, e3, e4, e5, idx_tabD S ha, idx_tabD S hb, idx_tabD S hab, cmp_ne_int, Int.ofNat_inj]
  simp only [ev_bi, evA_cons, evA_nil, cc, asW_flD, bnd_ok, any_flD, any_not]
  rfl
theorem fault_in (S : Sq m R) (hml : m ≤ 32) (hw : 32 < wf) {a : Nat} (ha : a < m) {e f g : Option W} :
    evS ⟨T, cal, wf, t, none⟩ (.for (.n 6) (.range (.cons (.var 1) .nil)) [6, 7] bThree) [some (.d (tabD R)), some (.d (.int m)), e, f, g, some (.d (.int a)), none, none] o =
      if (List.range m).all (threeB m R a) then .next [some (.d (tabD R)), some (.d (.int m)), e, f, g, some (.d (.int a)), none, none] o else .ret (.w (.d (.str sThrees))) o := by
  rw [evS_for, evI_rng (n := m) (by simp) (by unfold line; omega), bndS_ok]
  refine (forG_find (src_rng 0 m) (fun b => if threeB m R a b then none else some (.ret (.w (.d (.str sThrees))) o)) (fun j r h => ?he) wf (fun j x _ hx => ?hs) ?hf).trans ?fin
  case he =>
    split at h <;> cases h
    trivial
  case hs =>
    rw [List.getElem?_map] at hx
    cases q : (List.range m)[j]? with
    | none => rw [q] at hx; cases hx
    | some y =>
      have hj : j < m := by
        have := (List.getElem?_eq_some_iff.mp q).1
        rwa [List.length_range] at this
      rw [List.getElem?_range hj] at q
      cases q
      rw [List.getElem?_range hj] at hx
      cases hx
      have e := fault_three (T := T) (wf := wf) (t := t) (o := o) (cal := cal) S hml hw ha hj (e := e) (f := f) (g := g) (k := none)
      simp [bThree, one, bindT, e]
      cases threeB m R a j <;> simp [clean, killAll, under_take, sThrees]
  case hf =>
    rw [List.drop_zero, List.length_map, List.length_range]
    show m < wf
    omega
  case fin =>
    rw [find_all, List.length_map, List.length_range, Nat.sub_zero, ← List.range_eq_range']
    split <;> rfl
theorem fault_out (S : Sq m R) (hml : m ≤ 32) (hw : 32 < wf) {e f g : Option W} :
    evS ⟨T, cal, wf, t, none⟩ (.for (.n 5) (.range (.cons (.var 1) .nil)) [5, 6, 7] (.cons (.for (.n 6) (.range (.cons (.var 1) .nil)) [6, 7] bThree) .nil)) [some (.d (tabD R)), some (.d (.int m)), e, f, g, none, none, none] o =
      if goesB m R then .next [some (.d (tabD R)), some (.d (.int m)), e, f, g, none, none, none] o else .ret (.w (.d (.str sThrees))) o := by
  rw [evS_for, evI_rng (n := m) (by simp) (by unfold line; omega), bndS_ok, goes_is S]
  refine (forG_find (src_rng 0 m) (fun a => if (List.range m).all (threeB m R a) then none else some (.ret (.w (.d (.str sThrees))) o)) (fun j r h => ?he) wf (fun j x _ hx => ?hs) ?hf).trans ?fin
  case he =>
    split at h <;> cases h
    trivial
  case hs =>
    rw [List.getElem?_map] at hx
    cases q : (List.range m)[j]? with
    | none => rw [q] at hx; cases hx
    | some y =>
      have hj : j < m := by
        have := (List.getElem?_eq_some_iff.mp q).1
        rwa [List.length_range] at this
      rw [List.getElem?_range hj] at q
      cases q
      rw [List.getElem?_range hj] at hx
      cases hx
      have e := fault_in (T := T) (wf := wf) (t := t) (o := o) (cal := cal) S hml hw hj (e := e) (f := f) (g := g)
      simp only [one, bindT, List.set_cons_succ, List.set_cons_zero, Int.zero_add]
      rw [evB_cons, e]
      cases (List.range m).all (threeB m R j) <;> simp [clean, killAll, under_take]
  case hf =>
    rw [List.drop_zero, List.length_map, List.length_range]
    show m < wf
    omega
  case fin =>
    rw [find_all, List.length_map, List.length_range, Nat.sub_zero, ← List.range_eq_range']
    split <;> rfl
/-- the law's own look tells the same -/
theorem r_fault {i iRow : Nat} (h19 : Has T iRow ⟨2, 3, bIsRow⟩) (h : Has T i ⟨1, 8, bFault iRow⟩) {x : D} (k : knT x = true) (hw : 32 < wf) :
    run T wf (d + 2) i t [.d x] o = .ok (.w (.d ((faultG x).getD .non))) o := by
  rw [run_has h rfl]
  unfold bFault
  simp only [List.map_cons, List.map_nil, List.replicate, List.cons_append, List.nil_append, Nat.reduceSub, List.append_eq]
  rw [evB_cons]
  cases x <;> first | (simp [isiW, isiD, kn, knT, Bi.isInt, Bi.isBool, Bi.isStr, Bi.isTup, Bi.isLst, faultG, sTable]; done) | (simp [knT, kn, isiD] at k; done) | skip
  rename_i rows
  by_cases q : 1 ≤ rows.length ∧ rows.length ≤ 32
  · obtain ⟨l, ef⟩ := fault_rows (T := T) (wf := wf) (d := d) (t := t) (o := o) h19 k q.2 hw
    have ef1 : faultG (.tup rows) = match badRow rows.length rows with
      | some i => some (.int i)
      | none => (faultN rows.length (rows.map rowOf)).map .str := if_pos q
    have e1 : (1 : Int) ≤ rows.length := by omega
    have e2 : (rows.length : Int) ≤ 32 := by omega
    simp [isiW, isiD, Bi.isTup, Bi.isInt, len_tup, cmpW, cmpD, e1, e2, -evB_cons]
    rw [evB_cons]
    simp [len_tup, -evB_cons]
    rw [evB_cons, ef, ef1]
    cases hb : badRow rows.length rows with
    | some i => simp
    | none =>
      obtain ⟨hR, hS⟩ := rows_is rows (badRow_none hb)
      have S : Sq rows.length (rows.map rowOf) := ⟨List.length_map _, hS⟩
      have hT : D.tup rows = tabD (rows.map rowOf) := congrArg D.tup hR
      have o1 := fault_one (T := T) (wf := wf) (t := t) (o := o) S q.1 q.2 hw (cal := run T wf (d + 1)) (l := l) (a := none) (b := none) (c := none)
      have o2 := fault_backs (T := T) (wf := wf) (t := t) (o := o) S q.2 hw (cal := run T wf (d + 1)) (l := l) (a := some (.d (.int rows.length))) (b := none) (c := none) (e := none) (f := none) (g := none)
      have o3 := fault_out (T := T) (wf := wf) (t := t) (o := o) S q.2 hw (cal := run T wf (d + 1)) (e := none) (f := l) (g := none)
      rw [← hT] at o1 o2 o3
      simp only [thn_next]
      rw [evB_cons]
      simp only [evS_if, o1, asT_bl, bndS_ok, ← one_is S q.1]
      unfold faultN
      cases h1' : oneOk rows.length (rows.map rowOf) with
      | false => simp [sOne]
      | true =>
        simp only [Bool.not_true, Bool.false_eq_true, if_false, if_true, evB_nil, thn_next]
        rw [evB_cons]
        simp only [evS_if, o2, asT_bl, bndS_ok]
        cases h2' : backsOk (rows.map rowOf) with
        | false => simp [sBacks]
        | true =>
          simp only [Bool.not_true, Bool.false_eq_true, if_false, if_true, evB_nil, thn_next]
          rw [evB_cons, o3]
          cases h3' : goesB rows.length (rows.map rowOf) with
          | false => simp
          | true => simp
  · have e1 : ¬ ((1 : Int) ≤ rows.length ∧ (rows.length : Int) ≤ 32) := by omega
    have ef1 : faultG (.tup rows) = some (.str sTable) := if_neg q
    rw [ef1]
    by_cases q1 : (1 : Int) ≤ rows.length
    · have q2 : ¬ (rows.length : Int) ≤ 32 := fun z => e1 ⟨q1, z⟩
      simp [isiW, isiD, Bi.isTup, Bi.isInt, len_tup, cmpW, cmpD, q1, q2, sTable]
    · simp [isiW, isiD, Bi.isTup, Bi.isInt, len_tup, cmpW, cmpD, q1, sTable]
end
end Mi.N
end
section
set_option linter.all false
set_option Elab.async false
set_option maxHeartbeats 1000000
set_option autoImplicit false
namespace Mi.N
open PySem (Str Operator CmpOp)
/-! ### ints -/
section
variable {o : List Ob} {i j : Int}
@[simp] theorem bin_add : opD2 (binD .Add) (.d (.int i)) (.d (.int j)) o = .ok (.w (.d (.int (i + j)))) o := Eq.trans rfl rfl
@[simp] theorem bin_sub : opD2 (binD .Sub) (.d (.int i)) (.d (.int j)) o = .ok (.w (.d (.int (i - j)))) o := Eq.trans rfl rfl
theorem bin_mult (h : mulOk i j = true) : opD2 (binD .Mult) (.d (.int i)) (.d (.int j)) o = .ok (.w (.d (.int (i * j)))) o := by
  show okO (if mulOk i j then some (Val.w (.d (.int (i * j)))) else none) o = _
  rw [if_pos h] <;> rfl
theorem bin_mod (h : j ≠ 0) : opD2 (binD .Mod) (.d (.int i)) (.d (.int j)) o = .ok (.w (.d (.int (i.fmod j)))) o := by
  show okO (if j ≠ 0 then some (Val.w (.d (.int (i.fmod j)))) else none) o = _
  rw [if_pos h] <;> rfl
theorem bin_fdiv (h : j ≠ 0) (h2 : j.natAbs < 1073741824) : opD2 (binD .FloorDiv) (.d (.int i)) (.d (.int j)) o = .ok (.w (.d (.int (i.fdiv j)))) o := by
  show okO (if j ≠ 0 ∧ j.natAbs < 1073741824 then some (Val.w (.d (.int (i.fdiv j)))) else none) o = _
  rw [if_pos ⟨h, h2⟩] <;> rfl
theorem two64 : (2 : Int) ^ 64 = 18446744073709551616 := by decide +kernel
theorem mulOk_r (h1 : -18446744073709551616 < j) (h2 : j < 18446744073709551616) : mulOk i j = true := by
  unfold mulOk
  rw [two64, decide_eq_true h1, decide_eq_true h2]
  simp
theorem mulOk_l (h1 : -18446744073709551616 < i) (h2 : i < 18446744073709551616) : mulOk i j = true := by
  unfold mulOk
  rw [two64, decide_eq_true h1, decide_eq_true h2]
  simp
@[simp] theorem int_int : opDs (biD Bi.int) [.d (.int i)] o = .ok (.w (.d (.int i))) o := Eq.trans rfl rfl
@[simp] theorem int_bl (b : Bool) : opDs (biD Bi.int) [.d (.bl b)] o = .ok (.w (.d (.int (if b then 1 else 0)))) o := Eq.trans rfl rfl
@[simp] theorem abs_int : opDs (biD Bi.abs) [.d (.int i)] o = .ok (.w (.d (.int (if i < 0 then -i else i)))) o := Eq.trans rfl rfl
theorem cmp_lt {cx : Cx} : cmpW cx .Lt (.d (.int i)) (.d (.int j)) o = .ok (.w (.d (.bl (decide (i < j))))) o := Eq.trans rfl rfl
theorem cmp_gt {cx : Cx} : cmpW cx .Gt (.d (.int i)) (.d (.int j)) o = .ok (.w (.d (.bl (decide (j < i))))) o := Eq.trans rfl rfl
theorem cmp_ge {cx : Cx} : cmpW cx .GtE (.d (.int i)) (.d (.int j)) o = .ok (.w (.d (.bl (decide (j ≤ i))))) o := Eq.trans rfl rfl
theorem cmp_le {cx : Cx} : cmpW cx .LtE (.d (.int i)) (.d (.int j)) o = .ok (.w (.d (.bl (decide (i ≤ j))))) o := Eq.trans rfl rfl
theorem pow_1018 : opD2 (binD .Pow) (.d (.int 10)) (.d (.int 18)) o = .ok (.w (.d (.int 1000000000000000000))) o := by
  have e : binD .Pow (.int 10) (.int 18) = some (.w (.d (.int 1000000000000000000))) := by rfl
  show okO (binD .Pow (.int 10) (.int 18)) o = _
  rw [e] <;> rfl
end
/-! ### the hand -/
def handO (ns : List Int) (a : Nat) (b c e : Int) : Ob := .lst [.d (.lst (ns.map .int)), .d (.int a), .d (.int b), .d (.int c), .d (.int e)]
def IsHand (h : Ob) : Prop := ∃ ns a b c e, h = handO ns a b c e
section
variable {o : List Ob} {n : Nat} {ns : List Int} {a : Nat} {b c e : Int}
theorem idx_loc {ws : List W} {i : Int} (h : o[n]? = some (.lst ws)) : idxW o (.loc n) (.int i) = atI ws i := by
  show (match o[n]? with | some (.lst ws) => atI ws i | _ => none) = _
  rw [h]
theorem seti_loc {ws : List W} {i : Int} {j : Nat} {x : D} (h : o[n]? = some (.lst ws)) (hj : ixN ws.length i = some j) : setiW o (.loc n) (.int i) (.d x) = some (o.set n (.lst (ws.set j (.d x)))) := by
  show (match o[n]? with | some (.lst ws) => (match putIn n o (.d x), ixN ws.length i with | some w', some j => some (o.set n (.lst (ws.set j w'))) | _, _ => none) | _ => none) = _
  rw [h]
  show (match putIn n o (.d x), ixN ws.length i with | some w', some j => some (o.set n (.lst (ws.set j w'))) | _, _ => none) = _
  rw [hj]
  rfl
theorem hd0 (h : o[n]? = some (handO ns a b c e)) : idxW o (.loc n) (.int 0) = some (.d (.lst (ns.map .int))) := (idx_loc h).trans rfl
theorem hd1 (h : o[n]? = some (handO ns a b c e)) : idxW o (.loc n) (.int 1) = some (.d (.int a)) := (idx_loc h).trans rfl
theorem hd2 (h : o[n]? = some (handO ns a b c e)) : idxW o (.loc n) (.int 2) = some (.d (.int b)) := (idx_loc h).trans rfl
theorem hd3 (h : o[n]? = some (handO ns a b c e)) : idxW o (.loc n) (.int 3) = some (.d (.int c)) := (idx_loc h).trans rfl
theorem hd4 (h : o[n]? = some (handO ns a b c e)) : idxW o (.loc n) (.int 4) = some (.d (.int e)) := (idx_loc h).trans rfl
theorem hs1 (h : o[n]? = some (handO ns a b c e)) (x : Nat) : setiW o (.loc n) (.int 1) (.d (.int x)) = some (o.set n (handO ns x b c e)) := (seti_loc (j := 1) h rfl).trans rfl
theorem hs2 (h : o[n]? = some (handO ns a b c e)) (x : Int) : setiW o (.loc n) (.int 2) (.d (.int x)) = some (o.set n (handO ns a x c e)) := (seti_loc (j := 2) h rfl).trans rfl
theorem hs3 (h : o[n]? = some (handO ns a b c e)) (x : Int) : setiW o (.loc n) (.int 3) (.d (.int x)) = some (o.set n (handO ns a b x e)) := (seti_loc (j := 3) h rfl).trans rfl
theorem hs4 (h : o[n]? = some (handO ns a b c e)) (x : Int) : setiW o (.loc n) (.int 4) (.d (.int x)) = some (o.set n (handO ns a b c x)) := (seti_loc (j := 4) h rfl).trans rfl
theorem set_get {x y : Ob} (h : o[n]? = some x) : (o.set n y)[n]? = some y := List.getElem?_set_self (List.getElem?_eq_some_iff.mp h).1
theorem set_id {x : Ob} (h : o[n]? = some x) : o.set n x = o := by
  obtain ⟨hl, e⟩ := List.getElem?_eq_some_iff.mp h
  rw [← e]
  exact List.set_getElem_self hl
end
def bDraw1 : S := (.ite (.and (.cmp .Eq (.idx (.var 0) (.c (.int 2))) (.c (.int 0))) (.cmp .Lt (.idx (.var 0) (.c (.int 1))) (.bi Bi.len (.cons (.idx (.var 0) (.c (.int 0))) .nil))))
    (.cons (.set 2 (.idx (.idx (.var 0) (.c (.int 0))) (.idx (.var 0) (.c (.int 1)))))
    (.cons (.seti (.var 0) (.c (.int 1)) (.bin .Add (.idx (.var 0) (.c (.int 1))) (.c (.int 1))))
    (.cons (.seti (.var 0) (.c (.int 3)) (.bin .Mod (.bi Bi.int (.cons (.bin .Add (.bin .Add (.bin .Mult (.idx (.var 0) (.c (.int 3))) (.c (.int 69621))) (.bin .Mult (.var 2) (.c (.int 48271)))) (.c (.int 17))) .nil)) (.c (.int 2147483629))))
    (.cons (.ite (.cmp .GtE (.var 2) (.bin .Pow (.c (.int 10)) (.c (.int 18))))
    (.cons (.seti (.var 0) (.c (.int 2)) (.var 2))
    .nil)
    .nil)
    .nil))))
    .nil)
def bDraw : B :=
    (.cons bDraw1
    (.cons (.ite (.cmp .Gt (.idx (.var 0) (.c (.int 2))) (.c (.int 0)))
    (.cons (.set 3 (.bin .Mod (.bi Bi.int (.cons (.idx (.var 0) (.c (.int 2))) .nil)) (.var 1)))
    (.cons (.seti (.var 0) (.c (.int 2)) (.bin .FloorDiv (.idx (.var 0) (.c (.int 2))) (.var 1)))
    (.cons (.ret (.var 3))
    .nil)))
    .nil)
    (.cons (.seti (.var 0) (.c (.int 4)) (.bin .Add (.idx (.var 0) (.c (.int 4))) (.c (.int 1))))
    (.cons (.set 4 (.bin .Mod (.bi Bi.int (.cons (.bin .Mult (.bi Bi.int (.cons (.bin .Add (.idx (.var 0) (.c (.int 3))) (.bin .Mult (.c (.int 7919)) (.idx (.var 0) (.c (.int 4))))) .nil)) (.c (.int 40692))) .nil)) (.c (.int 2147483647))))
    (.cons (.set 4 (.bin .Mod (.bi Bi.int (.cons (.bin .Mult (.var 4) (.bin .Add (.bin .FloorDiv (.var 4) (.c (.int 1009))) (.c (.int 69621)))) .nil)) (.c (.int 2147483647))))
    (.cons (.set 4 (.bin .Mod (.bi Bi.int (.cons (.bin .Mult (.var 4) (.bin .Add (.bin .FloorDiv (.var 4) (.c (.int 2003))) (.c (.int 40014)))) .nil)) (.c (.int 2147483563))))
    (.cons (.ret (.bin .Mod (.bi Bi.int (.cons (.bin .FloorDiv (.var 4) (.c (.int 16))) .nil)) (.var 1)))
    .nil)))))))
section
variable {T : Tab} {wf d : Nat} {t : Option Thk} {cur : Option Ex} {o : List Ob} {n : Nat} {cal : Cal}
theorem draw1 {h : Ob} (hh : IsHand h) (hn : o[n]? = some h) (m : Option W) : ∃ h1 v, IsHand h1 ∧ evS ⟨T, cal, wf, t, cur⟩ bDraw1 [some (.loc n), m, none, none, none] o = .next [some (.loc n), m, v, none, none] (o.set n h1) := by
  obtain ⟨ns, a, b, c, e, rfl⟩ := hh
  by_cases q : b = 0 ∧ (a : Int) < ns.length
  · obtain ⟨b0, q0⟩ := q
    subst b0
    have hlt : a < ns.length := by omega
    have q2 : (a : Int) < (ns.map D.int).length := by rw [List.length_map]; exact q0
    have cell : ∀ o', idxW o' (.d (.lst (ns.map .int))) (.int a) = some (.d (.int ns[a])) := fun o' => by
      show (atI (ns.map D.int) (a : Int)).map W.d = _
      rw [atI_nat (by rw [List.length_map]; exact hlt)]
      simp
    have e1 : (a : Int) + 1 = ((a + 1 : Nat) : Int) := by omega
    obtain ⟨o1, ho1⟩ : ∃ o1, o.set n (handO ns (a + 1) 0 c e) = o1 := ⟨_, rfl⟩
    have hn1 : o1[n]? = some (handO ns (a + 1) 0 c e) := by rw [← ho1]; exact set_get hn
    obtain ⟨z, hz⟩ : ∃ z : Int, (c * 69621 + ns[a] * 48271 + 17).fmod 2147483629 = z := ⟨_, rfl⟩
    obtain ⟨o2, ho2⟩ : ∃ o2, o1.set n (handO ns (a + 1) 0 z e) = o2 := ⟨_, rfl⟩
    have hn2 : o2[n]? = some (handO ns (a + 1) 0 z e) := by rw [← ho2]; exact set_get hn1
    have go : evS ⟨T, cal, wf, t, cur⟩ bDraw1 [some (.loc n), m, none, none, none] o = thn (evS ⟨T, cal, wf, t, cur⟩ (.ite (.cmp .GtE (.var 2) (.bin .Pow (.c (.int 10)) (.c (.int 18))))
    (.cons (.seti (.var 0) (.c (.int 2)) (.var 2))
    .nil)
    .nil) [some (.loc n), m, some (.d (.int ns[a])), none, none] o2) fun σ o => .next σ o := by
      unfold bDraw1
      simp only [evS_if, ev_and, ev_cmp, ev_idx, ev_var, ev_c, ev_bi, evA_cons, evA_nil, List.getElem?_cons_succ, List.getElem?_cons_zero, asW_w, bnd_ok, idxR, view_d, hd0 hn, hd1 hn, hd2 hn, Option.map_some, okO_some, cmp_eq_int, len_lst, cmp_lt, asT_bl, bndS_ok, q2, decide_true, if_true, wd_eq]
      rw [evB_cons]
      simp only [evS_set, ev_idx, ev_var, ev_c, List.getElem?_cons_succ, List.getElem?_cons_zero, asW_w, bnd_ok, idxR, view_d, hd0 hn, hd1 hn, Option.map_some, okO_some, cell, bndS_ok, thn_next, List.set_cons_succ, List.set_cons_zero]
      rw [evB_cons]
      simp only [evS_seti, ev_bin, ev_idx, ev_var, ev_c, List.getElem?_cons_succ, List.getElem?_cons_zero, asW_w, bnd_ok, idxR, view_d, hd1 hn, Option.map_some, okO_some, bin_add, bndS_ok, e1, hs1 hn, oS, thn_next, ho1]
      rw [evB_cons]
      simp only [evS_seti, ev_bin, ev_idx, ev_var, ev_c, ev_bi, evA_cons, evA_nil, List.getElem?_cons_succ, List.getElem?_cons_zero, asW_w, bnd_ok, idxR, view_d, hd3 hn1, Option.map_some, okO_some, bin_add,
        bin_mult (mulOk_r (i := c) (j := 69621) (by decide) (by decide)), bin_mult (mulOk_r (i := ns[a]) (j := 48271) (by decide) (by decide)), int_int, bin_mod (j := 2147483629) (by decide), bndS_ok, hz, hs3 hn1, oS, thn_next, ho2]
      rw [evB_cons]
      rfl
    by_cases q3 : (1000000000000000000 : Int) ≤ ns[a]
    · refine ⟨handO ns (a + 1) ns[a] z e, some (.d (.int ns[a])), ⟨_, _, _, _, _, rfl⟩, ?_⟩
      rw [go]
      simp only [evS_if, ev_cmp, ev_bin, ev_var, ev_c, List.getElem?_cons_succ, List.getElem?_cons_zero, asW_w, bnd_ok, pow_1018, cmp_ge, q3, decide_true, asT_bl, bndS_ok, if_true]
      rw [evB_cons]
      simp only [evS_seti, ev_var, ev_c, List.getElem?_cons_succ, List.getElem?_cons_zero, asW_w, bndS_ok, hs2 hn2, oS, thn_next, evB_nil]
      simp only [← ho2, ← ho1, List.set_set]
    · refine ⟨handO ns (a + 1) 0 z e, some (.d (.int ns[a])), ⟨_, _, _, _, _, rfl⟩, ?_⟩
      rw [go]
      simp only [evS_if, ev_cmp, ev_bin, ev_var, ev_c, List.getElem?_cons_succ, List.getElem?_cons_zero, asW_w, bnd_ok, pow_1018, cmp_ge, q3, decide_false, asT_bl, bndS_ok, if_false, Bool.false_eq_true, evB_nil, thn_next]
      simp only [← ho2, ← ho1, List.set_set]
  · refine ⟨handO ns a b c e, none, ⟨_, _, _, _, _, rfl⟩, ?_⟩
    rw [set_id hn]
    unfold bDraw1
    by_cases q1 : b = 0
    · have q2 : ¬ (a : Int) < (ns.map D.int).length := by rw [List.length_map]; exact fun z => q ⟨q1, z⟩
      simp only [evS_if, ev_and, ev_cmp, ev_idx, ev_var, ev_c, ev_bi, evA_cons, evA_nil, List.getElem?_cons_succ, List.getElem?_cons_zero, asW_w, bnd_ok, idxR, view_d, hd0 hn, hd1 hn, hd2 hn, Option.map_some, okO_some, cmp_eq_int, len_lst, cmp_lt, asT_bl, bndS_ok, q1, q2, decide_true, decide_false, if_true, if_false, Bool.false_eq_true, wd_eq, evB_nil]
    · simp only [evS_if, ev_and, ev_cmp, ev_idx, ev_var, ev_c, ev_bi, evA_cons, evA_nil, List.getElem?_cons_succ, List.getElem?_cons_zero, asW_w, bnd_ok, idxR, view_d, hd0 hn, hd1 hn, hd2 hn, Option.map_some, okO_some, cmp_eq_int, len_lst, cmp_lt, asT_bl, bndS_ok, q1, decide_true, decide_false, if_true, if_false, Bool.false_eq_true, wd_eq, evB_nil]
theorem fm_nat (x : Int) {m : Nat} (h : 0 < m) : ∃ k : Nat, k < m ∧ x.fmod m = (k : Int) := by
  have h1 : 0 ≤ x.fmod m := Int.fmod_nonneg_of_pos x (by omega)
  have h2 : x.fmod m < m := Int.fmod_lt_of_pos x (by omega)
  exact ⟨(x.fmod m).toNat, by omega, by omega⟩
theorem fm_small (x : Int) {m : Int} (h : 0 < m) (h2 : m < 18446744073709551616) : -18446744073709551616 < x.fmod m ∧ x.fmod m < 18446744073709551616 := by
  have h1 : 0 ≤ x.fmod m := Int.fmod_nonneg_of_pos x h
  have h2 : x.fmod m < m := Int.fmod_lt_of_pos x h
  omega
/-- a draw: a digit below the number asked, and the hand a hand still -/
theorem r_draw {i m : Nat} {h : Ob} (hd : Has T i ⟨2, 5, bDraw⟩) (hh : IsHand h) (hn : o[n]? = some h) (hm : 0 < m) (hm2 : m < 1073741824) :
    ∃ (k : Nat) (h' : Ob), k < m ∧ IsHand h' ∧ run T wf (d + 1) i t [.loc n, .d (.int m)] o = .ok (.w (.d (.int k))) (o.set n h') := by
  rw [run_has hd rfl]
  obtain ⟨h1, v, hh1, e1⟩ := draw1 (T := T) (cal := run T wf d) (wf := wf) (t := t) (cur := none) hh hn (some (.d (.int m)))
  have hn1 : (o.set n h1)[n]? = some h1 := set_get hn
  have hl : (o.set n h1).length = o.length := List.length_set
  unfold bDraw
  simp only [List.map_cons, List.map_nil, List.replicate, List.cons_append, List.nil_append, Nat.reduceSub, List.append_eq]
  rw [evB_cons, e1, thn_next]
  rw [← hl]
  have fin : ∀ (k : Nat) (h' : Ob), retR (o.set n h1).length (.ret (.w (.d (.int k))) ((o.set n h1).set n h')) = .ok (.w (.d (.int k))) (o.set n h') := fun k h' => by
    rw [retR_d, List.set_set, hl, ← (List.length_set : (o.set n h').length = o.length), takeL]
  revert hn1
  generalize o.set n h1 = o1 at fin
  intro hn1
  obtain ⟨ns, a, b, c, e, rfl⟩ := hh1
  have mz : (m : Int) ≠ 0 := by omega
  rw [evB_cons]
  simp only [evS_if, ev_cmp, ev_idx, ev_var, ev_c, List.getElem?_cons_succ, List.getElem?_cons_zero, asW_w, bnd_ok, idxR, view_d, hd2 hn1, Option.map_some, okO_some, cmp_gt, asT_bl, bndS_ok]
  by_cases q : (0 : Int) < b
  · obtain ⟨k, hk, ek⟩ := fm_nat b hm
    refine ⟨k, handO ns a (b.fdiv m) c e, hk, ⟨_, _, _, _, _, rfl⟩, ?_⟩
    simp only [q, decide_true, if_true]
    rw [evB_cons]
    simp only [evS_set, ev_bin, ev_bi, ev_idx, ev_var, ev_c, evA_cons, evA_nil, List.getElem?_cons_succ, List.getElem?_cons_zero, asW_w, bnd_ok, idxR, view_d, hd2 hn1, Option.map_some, okO_some, int_int, bin_mod mz, bndS_ok, thn_next, List.set_cons_succ, List.set_cons_zero, ek]
    rw [evB_cons]
    simp only [evS_seti, ev_bin, ev_bi, ev_idx, ev_var, ev_c, evA_cons, evA_nil, List.getElem?_cons_succ, List.getElem?_cons_zero, asW_w, bnd_ok, idxR, view_d, hd2 hn1, Option.map_some, okO_some, bin_fdiv mz (by omega), bndS_ok, hs2 hn1, oS, thn_next]
    rw [evB_cons]
    simp only [evS_ret, ev_var, List.getElem?_cons_succ, List.getElem?_cons_zero, bndS_ok, thn_ret, fin]
  · obtain ⟨e', he⟩ : ∃ e' : Int, e + 1 = e' := ⟨_, rfl⟩
    obtain ⟨n1, h1⟩ : ∃ n1 : Int, ((c + 7919 * e') * 40692).fmod 2147483647 = n1 := ⟨_, rfl⟩
    obtain ⟨n2, h2⟩ : ∃ n2 : Int, (n1 * (n1.fdiv 1009 + 69621)).fmod 2147483647 = n2 := ⟨_, rfl⟩
    obtain ⟨n3, h3⟩ : ∃ n3 : Int, (n2 * (n2.fdiv 2003 + 40014)).fmod 2147483563 = n3 := ⟨_, rfl⟩
    obtain ⟨k, hk, ek⟩ := fm_nat (n3.fdiv 16) hm
    refine ⟨k, handO ns a b c e', hk, ⟨_, _, _, _, _, rfl⟩, ?_⟩
    rw [← fin]
    obtain ⟨o2, ho2⟩ : ∃ o2, o1.set n (handO ns a b c e') = o2 := ⟨_, rfl⟩
    have hn2 : o2[n]? = some (handO ns a b c e') := by rw [← ho2]; exact set_get hn1
    simp only [q, decide_false, Bool.false_eq_true, if_false, evB_nil, thn_next]
    rw [evB_cons]
    simp only [evS_seti, ev_bin, ev_idx, ev_var, ev_c, List.getElem?_cons_succ, List.getElem?_cons_zero, asW_w, bnd_ok, idxR, view_d, hd4 hn1, Option.map_some, okO_some, bin_add, bndS_ok, he, hs4 hn1, oS, thn_next, ho2]
    rw [evB_cons]
    have f1 := fm_small ((c + 7919 * e') * 40692) (m := 2147483647) (by decide) (by decide)
    have f2 := fm_small (n1 * (n1.fdiv 1009 + 69621)) (m := 2147483647) (by decide) (by decide)
    rw [h1] at f1
    rw [h2] at f2
    simp only [evS_set, ev_bin, ev_bi, ev_idx, ev_var, ev_c, evA_cons, evA_nil, List.getElem?_cons_succ, List.getElem?_cons_zero, asW_w, bnd_ok, idxR, view_d, hd3 hn2, hd4 hn2, Option.map_some, okO_some, bin_add,
      bin_mult (mulOk_l (i := 7919) (j := e') (by decide) (by decide)), int_int, bin_mult (mulOk_r (i := c + 7919 * e') (j := 40692) (by decide) (by decide)), bin_mod (j := 2147483647) (by decide), h1, bndS_ok, thn_next, List.set_cons_succ, List.set_cons_zero]
    rw [evB_cons]
    simp only [evS_set, ev_bin, ev_bi, ev_var, ev_c, evA_cons, evA_nil, List.getElem?_cons_succ, List.getElem?_cons_zero, asW_w, bnd_ok, bin_fdiv (i := n1) (j := 1009) (by decide) (by decide), bin_add, bin_mult (mulOk_l (j := n1.fdiv 1009 + 69621) f1.1 f1.2), int_int, bin_mod (j := 2147483647) (by decide), h2, bndS_ok, thn_next, List.set_cons_succ, List.set_cons_zero]
    rw [evB_cons]
    simp only [evS_set, ev_bin, ev_bi, ev_var, ev_c, evA_cons, evA_nil, List.getElem?_cons_succ, List.getElem?_cons_zero, asW_w, bnd_ok, bin_fdiv (i := n2) (j := 2003) (by decide) (by decide), bin_add, bin_mult (mulOk_l (j := n2.fdiv 2003 + 40014) f2.1 f2.2), int_int, bin_mod (j := 2147483563) (by decide), h3, bndS_ok, thn_next, List.set_cons_succ, List.set_cons_zero]
    rw [evB_cons]
    simp only [evS_ret, ev_bin, ev_bi, ev_var, ev_c, evA_cons, evA_nil, List.getElem?_cons_succ, List.getElem?_cons_zero, asW_w, bnd_ok, bin_fdiv (i := n3) (j := 16) (by decide) (by decide), int_int, bin_mod mz, ek, bndS_ok, thn_ret]
end
end Mi.N
end
section
set_option linter.all false
set_option Elab.async false
set_option maxHeartbeats 1000000
set_option autoImplicit false
namespace Mi.N
open PySem (Str Operator CmpOp)
/-! ### a loop that changes the store -/
theorem forG_st {step : Item → Sg → List Ob → SR} {f : Itr} {xs : List Item} (τ : Nat → Sg) (ω : Nat → List Ob) (hs : Src f xs) : ∀ (fuel i : Nat),
    (∀ j x, i ≤ j → xs[j]? = some x → step x (τ j) (ω j) = .next (τ (j + 1)) (ω (j + 1))) → i ≤ xs.length → (xs.drop i).length < fuel → forG step f fuel i (τ i) (ω i) = .next (τ xs.length) (ω xs.length)
  | 0, i, h, hi, hf => absurd hf (Nat.not_lt_zero _)
  | fuel + 1, i, h, hl, hf => by
    unfold forG
    rw [hs (ω i) i]
    cases q : xs[i]? with
    | none =>
      have e : i = xs.length := Nat.le_antisymm hl (List.getElem?_eq_none_iff.mp q)
      rw [e]
    | some x =>
      obtain ⟨hi, e⟩ := List.getElem?_eq_some_iff.mp q
      dsimp only
      rw [h i x (Nat.le_refl i) q]
      exact forG_st τ ω hs fuel (i + 1) (fun j z hj hz => h j z (by omega) hz) hi (by rw [List.length_drop] at hf ⊢; omega)
/-- over range(n) -/
theorem for_rng {cx : Cx} {i n : Nat} {as : A} {kill : List Nat} {b : B} {o : List Ob} (τ : Nat → Sg) (ω : Nat → List Ob) (hi : evA cx as (τ 0) (ω 0) = .ok [.d (.int n)] (ω 0)) (hl : n ≤ line) (hf : n < cx.wf)
    (h : ∀ j < n, clean (ω 0).length kill (evB cx b ((τ j).set i (some (.d (.int (j : Nat))))) (ω j)) = .next (τ (j + 1)) (ω (j + 1))) :
    evS cx (.for (.n i) (.range as) kill b) (τ 0) (ω 0) = .next (τ n) (ω n) := by
  rw [evS_for, evI_rng hi hl, bndS_ok]
  have e : ((List.range n).map fun i => one (.int (0 + (i : Nat)))).length = n := by rw [List.length_map, List.length_range]
  have := forG_st (step := fun x σ o2 => match bindT (.n i) x σ with | some σ1 => clean (ω 0).length kill (evB cx b σ1 o2) | none => .bad) τ ω (src_rng 0 n) cx.wf 0 (fun j x _ hx => ?_) (Nat.zero_le _) (by rw [List.drop_zero, e]; exact hf)
  · rw [e] at this
    exact this
  · rw [List.getElem?_map] at hx
    cases q : (List.range n)[j]? with
    | none => rw [q] at hx; cases hx
    | some y =>
      have hj : j < n := by
        have := (List.getElem?_eq_some_iff.mp q).1
        rwa [List.length_range] at this
      rw [List.getElem?_range hj] at q
      cases q
      rw [List.getElem?_range hj] at hx
      cases hx
      have := h j hj
      rw [← this]
      show clean _ _ (evB cx b ((τ j).set i (some (.d (.int (0 + (j : Nat)))))) (ω j)) = _
      rw [Int.zero_add]
section
variable {o : List Ob} {a b c : Ob}
@[simp] theorem ap0 : (o ++ [a])[o.length]? = some a := by simp
@[simp] theorem ap01 : (o ++ [a, b])[o.length]? = some a := by simp
@[simp] theorem ap1 : (o ++ [a, b])[o.length + 1]? = some b := by simp
@[simp] theorem st0 : (o ++ [a]).set o.length c = o ++ [c] := by simp
@[simp] theorem st01 : (o ++ [a, b]).set o.length c = o ++ [c, b] := by simp
@[simp] theorem st1 : (o ++ [a, b]).set (o.length + 1) c = o ++ [a, c] := by simp
theorem tk1 : (o ++ [a, b]).take (o.length + 1) = o ++ [a] := by rw [List.take_append, List.take_of_length_le (by omega)]; simp
theorem tk0 : (o ++ [a]).take o.length = o := by simp
theorem tk2 : (o ++ [a, b]).take (o.length + 2) = o ++ [a, b] := List.take_of_length_le (by simp)
end
theorem mut_app {o : List Ob} {n : Nat} {ws : List W} {x : D} (h : o[n]? = some (.lst ws)) (hl : ws.length < line) : mutR Mt.append (.loc n) [.d x] o = .ok (.w (.d .non)) (o.set n (.lst (ws ++ [.d x]))) := by
  show mutW Mt.append n [.d x] o = _
  unfold mutW
  rw [h]
  show (match putIn n o (.d x) with | some w' => if ws.length < line then R.ok (wd .non) (o.set n (.lst (ws ++ [w']))) else .bad | none => .bad) = _
  show (if ws.length < line then R.ok (wd .non) (o.set n (.lst (ws ++ [.d x]))) else .bad) = _
  rw [if_pos hl] <;> rfl
theorem kind_loc {o : List Ob} {n : Nat} {ws : List W} (h : o[n]? = some (.lst ws)) : kindW o (.loc n) = some true := by
  show (match o[n]? with | some (.lst _) => some true | _ => none) = _
  rw [h]
theorem view_loc {o : List Ob} {n : Nat} {xs : List D} (h : o[n]? = some (.lst (xs.map .d))) : view o (.loc n) = some (.lst xs) := by
  show (match o[n]? with | some (.lst ws) => (allD ws).map D.lst | some (.dct kvs) => (allDkv kvs).map D.dct | _ => none) = _
  rw [h]
  show (allD (xs.map .d)).map D.lst = _
  rw [allD_map] <;> rfl
theorem opDs_loc {f : List D → Option Val} {o : List Ob} {n : Nat} {xs : List D} (h : o[n]? = some (.lst (xs.map .d))) : opDs f [.loc n] o = okO (f [.lst xs]) o := by
  have e : viewAll o [.loc n] = some [.lst xs] := by
    show (match view o (.loc n) with | some x => (match viewAll o [] with | some xs => some (x :: xs) | none => none) | none => none) = _
    rw [view_loc h] <;> rfl
  unfold opDs
  rw [e]
theorem tup_loc {o : List Ob} {n : Nat} {xs : List D} (h : o[n]? = some (.lst (xs.map .d))) : opDs (biD Bi.tup) [.loc n] o = .ok (.w (.d (.tup xs))) o := (opDs_loc h).trans rfl
theorem len_loc {o : List Ob} {n : Nat} {xs : List D} (h : o[n]? = some (.lst (xs.map .d))) : opDs (biD Bi.len) [.loc n] o = .ok (.w (.d (.int xs.length))) o := (opDs_loc h).trans rfl
/-! ### the ring -/
def bRing : B :=
    (.cons (.ret (.bi Bi.tup (.cons (.comp [2] (.n 2) (.range (.cons (.var 0) .nil)) (.c (.bl true)) (.bi Bi.tup (.cons (.comp [1] (.n 1) (.range (.cons (.var 0) .nil)) (.c (.bl true)) (.bin .Mod (.bi Bi.int (.cons (.bin .Add (.var 2) (.var 1)) .nil)) (.var 0))) .nil))) .nil)))
    .nil)
def ringR (m : Nat) : List (List Nat) := (List.range m).map fun a => (List.range m).map fun b => (a + b) % m
theorem fmod_nat (a m : Nat) : Int.fmod (a : Int) (m : Int) = ((a % m : Nat) : Int) := by
  rw [Int.fmod_eq_emod_of_nonneg _ (by omega), Int.natCast_emod]
theorem fdiv_nat (a m : Nat) : Int.fdiv (a : Int) (m : Int) = ((a / m : Nat) : Int) := by
  rw [Int.fdiv_eq_ediv_of_nonneg _ (by omega), Int.natCast_ediv]
theorem tabD_of (m n : Nat) (f : Nat → Nat → Nat) : D.tup ((List.range m).map fun a => D.tup ((List.range n).map fun b => D.int (f a b : Nat))) = tabD ((List.range m).map fun a => (List.range n).map fun b => f a b) := by
  show _ = D.tup (((List.range m).map fun a => (List.range n).map fun b => f a b).map rowD)
  rw [List.map_map]
  congr 1
  apply List.map_congr_left
  intro a _
  show _ = D.tup (((List.range n).map fun b => f a b).map _)
  rw [List.map_map]
  rfl
section
variable {T : Tab} {wf d : Nat} {t : Option Thk} {cur : Option Ex} {o : List Ob} {m : Nat}
theorem r_ring {i : Nat} (h : Has T i ⟨1, 3, bRing⟩) (hm : 0 < m) (hm2 : m ≤ 40) (hw : 40 < wf) : run T wf (d + 1) i t [.d (.int m)] o = .ok (.w (.d (tabD (ringR m)))) o := by
  rw [run_has h rfl]
  have mz : (m : Int) ≠ 0 := by omega
  have c1 : ∀ a : Nat, ∀ σ1 : Option W, evE ⟨T, run T wf d, wf, t, none⟩ (.comp [1] (.n 1) (.range (.cons (.var 0) .nil)) (.c (.bl true)) (.bin .Mod (.bi Bi.int (.cons (.bin .Add (.var 2) (.var 1)) .nil)) (.var 0)))
      [some (.d (.int m)), σ1, some (.d (.int a))] o = .ok (flD ((List.range m).map fun b => .int ((a + b) % m : Nat))) o := fun a σ1 => by
    refine ev_compR (by simp) (fun b hb => ?_) (by show m < wf; omega) (by unfold line; omega)
    have e : ((a : Int) + (b : Int)).fmod m = (((a + b) % m : Nat) : Int) := by rw [← Int.natCast_add, fmod_nat]
    simp only [killAll, List.set_cons_succ, List.set_cons_zero, ev_bin, ev_bi, evA_cons, evA_nil, ev_var, List.getElem?_cons_succ, List.getElem?_cons_zero, asW_w, bnd_ok, bin_add, int_int, bin_mod mz, e]
  have c2 : evE ⟨T, run T wf d, wf, t, none⟩ (.comp [2] (.n 2) (.range (.cons (.var 0) .nil)) (.c (.bl true)) (.bi Bi.tup (.cons (.comp [1] (.n 1) (.range (.cons (.var 0) .nil)) (.c (.bl true)) (.bin .Mod (.bi Bi.int (.cons (.bin .Add (.var 2) (.var 1)) .nil)) (.var 0))) .nil)))
      [some (.d (.int m)), none, none] o = .ok (flD ((List.range m).map fun a => .tup ((List.range m).map fun b => .int ((a + b) % m : Nat)))) o := by
    refine ev_compR (by simp) (fun a ha => ?_) (by show m < wf; omega) (by unfold line; omega)
    simp only [killAll, List.set_cons_succ, List.set_cons_zero, ev_bi, evA_cons, evA_nil, c1 a none, asW_flD, bnd_ok, tup_flD, asW_w]
  unfold bRing
  simp only [List.map_cons, List.map_nil, List.replicate, List.cons_append, List.nil_append, Nat.reduceSub, List.append_eq]
  rw [evB_cons]
  simp only [evS_ret, ev_bi, evA_cons, evA_nil, c2, asW_flD, bnd_ok, tup_flD, bndS_ok, thn_ret, retR_d, takeL, tabD_of]
  rfl
/-! ### any -/
def bAny (iDraw : Nat) : B := (.cons (.ret (.idx (.var 1) (.call iDraw (.cons (.var 0) (.cons (.bi Bi.len (.cons (.var 1) .nil)) .nil))))) .nil)
theorem r_any {i iDraw n : Nat} {h : Ob} {xs : List D} (hd : Has T iDraw ⟨2, 5, bDraw⟩) (ha : Has T i ⟨2, 2, bAny iDraw⟩) (hh : IsHand h) (hn : o[n]? = some h) (hx : 0 < xs.length) (hx2 : xs.length < 1073741824) :
    ∃ (k : Nat) (h' : Ob) (hk : k < xs.length), IsHand h' ∧ run T wf (d + 2) i t [.loc n, .d (.lst xs)] o = .ok (.w (.d xs[k])) (o.set n h') := by
  rw [run_has ha rfl]
  obtain ⟨k, h', hk, hh', e⟩ := r_draw (wf := wf) (d := d) (t := none) hd hh hn hx hx2
  refine ⟨k, h', hk, hh', ?_⟩
  have e2 : ∀ o', idxW o' (.d (.lst xs)) (.int k) = some (.d xs[k]) := fun o' => by
    show (atI xs (k : Int)).map W.d = _
    rw [atI_nat hk] <;> rfl
  unfold bAny
  simp only [List.map_cons, List.map_nil, List.replicate, List.cons_append, List.nil_append, Nat.reduceSub, List.append_eq]
  rw [evB_cons]
  have hl : (o.set n h').length = o.length := List.length_set
  simp only [evS_ret, ev_idx, ev_call, ev_bi, evA_cons, evA_nil, ev_var, List.getElem?_cons_succ, List.getElem?_cons_zero, asW_w, bnd_ok, len_lst, e, idxR, view_d, e2, Option.map_some, okO_some, bndS_ok, thn_ret, retR_d]
  rw [← hl, takeL]
end
end Mi.N
end
section
set_option linter.all false
set_option Elab.async false
set_option maxHeartbeats 1000000
set_option autoImplicit false
namespace Mi.N
open PySem (Str Operator CmpOp)
theorem cmp_ne_bl {cx : Cx} {x y : Bool} {o : List Ob} : cmpW cx .NotEq (.d (.bl x)) (.d (.bl y)) o = .ok (.w (.d (.bl (!(x == y))))) o :=
  (cmp_ne (x := .bl x) (y := .bl y) rfl rfl (fun s h => by cases h)).trans rfl
@[simp] theorem neg_int {i : Int} {o : List Ob} : opD1 (fun p => (negD p).map wd) (.d (.int i)) o = .ok (.w (.d (.int (-i)))) o := Eq.trans rfl rfl
def flipIn : B := (.cons (.set 6 (.ite (.cmp .Lt (.var 3) (.var 0)) (.c (.int 1)) (.neg (.c (.int 1)))))
    (.cons (.set 7 (.bin .Add (.bin .Mod (.bi Bi.int (.cons (.var 3) .nil)) (.var 0)) (.bin .Mult (.var 6) (.bin .Mod (.bi Bi.int (.cons (.var 5) .nil)) (.var 0)))))
    (.cons (.ite (.and (.cmp .GtE (.var 3) (.var 0)) (.cmp .GtE (.var 5) (.var 0)))
    (.cons (.set 7 (.bin .Add (.var 7) (.var 1)))
    .nil)
    .nil)
    (.cons (.set 8 (.bin .Mult (.var 0) (.bi Bi.int (.cons (.cmp .NotEq (.cmp .GtE (.var 3) (.var 0)) (.cmp .GtE (.var 5) (.var 0))) .nil))))
    (.cons (.ex (.mut Mt.append (.var 4) (.cons (.bin .Add (.bin .Mod (.bi Bi.int (.cons (.var 7) .nil)) (.var 0)) (.var 8)) .nil)))
    .nil)))))
def flipOut : B := (.cons (.set 4 (.alloc (.lst .nil)))
    (.cons (.for (.n 5) (.range (.cons (.bin .Mult (.c (.int 2)) (.var 0)) .nil)) [5, 6, 7, 8] flipIn)
    (.cons (.ex (.mut Mt.append (.var 2) (.cons (.bi Bi.tup (.cons (.var 4) .nil)) .nil)))
    .nil)))
def bFlips : B :=
    (.cons (.set 2 (.alloc (.lst .nil)))
    (.cons (.for (.n 3) (.range (.cons (.bin .Mult (.c (.int 2)) (.var 0)) .nil)) [3, 4, 5, 6, 7, 8] flipOut)
    (.cons (.ret (.bi Bi.tup (.cons (.var 2) .nil)))
    .nil)))
def cellF (m : Nat) (hf : Int) (a b : Nat) : Int :=
  let s : Int := if (a : Int) < m then 1 else -1
  let t0 : Int := (a : Int).fmod m + s * (b : Int).fmod m
  let t : Int := if (m : Int) ≤ a ∧ (m : Int) ≤ b then t0 + hf else t0
  t.fmod m + m * (if (decide ((m : Int) ≤ a) == decide ((m : Int) ≤ b)) then 0 else 1)
def flipRow (m : Nat) (hf : Int) (a n : Nat) : List D := (List.range n).map fun b => .int (cellF m hf a b)
def flipRows (m : Nat) (hf : Int) (n : Nat) : List D := (List.range n).map fun a => .tup (flipRow m hf a (2 * m))
section
variable {T : Tab} {wf d : Nat} {t : Option Thk} {cur : Option Ex} {o : List Ob} {m : Nat} {hf : Int} {cal : Cal}
theorem flip_in (hm : 0 < m) (hm2 : m ≤ 16) {a b : Nat} (hb : b < 2 * m) {F : Ob} :
    ∃ x y z, evB ⟨T, cal, wf, t, none⟩ flipIn [some (.d (.int m)), some (.d (.int hf)), some (.loc o.length), some (.d (.int a)), some (.loc (o.length + 1)), some (.d (.int b)), none, none, none] (o ++ [F, .lst ((flipRow m hf a b).map .d)]) =
      .next [some (.d (.int m)), some (.d (.int hf)), some (.loc o.length), some (.d (.int a)), some (.loc (o.length + 1)), some (.d (.int b)), x, y, z] (o ++ [F, .lst ((flipRow m hf a (b + 1)).map .d)]) := by
  have mz : (m : Int) ≠ 0 := by omega
  have hl : ((flipRow m hf a b).map W.d).length < line := by
    unfold flipRow line
    simp
    omega
  have ap : ∀ x : Int, x = cellF m hf a b → mutR Mt.append (.loc (o.length + 1)) [.d (.int x)] (o ++ [F, .lst ((flipRow m hf a b).map .d)]) = .ok (.w (.d .non)) (o ++ [F, .lst ((flipRow m hf a (b + 1)).map .d)]) := fun x hx => by
    rw [mut_app ap1 hl, st1, hx]
    unfold flipRow
    rw [List.range_succ, List.map_append, List.map_append] <;> rfl
  have kd : kindW (o ++ [F, .lst ((flipRow m hf a b).map .d)]) (.loc (o.length + 1)) = some true := kind_loc ap1
  have m1 : ∀ y, opD2 (binD .Mult) (.d (.int m)) (.d (.int y)) (o ++ [F, .lst ((flipRow m hf a b).map .d)]) = .ok (.w (.d (.int (m * y)))) (o ++ [F, .lst ((flipRow m hf a b).map .d)]) := fun y => bin_mult (mulOk_l (by omega) (by omega))
  have m2 : ∀ y, opD2 (binD .Mult) (.d (.int 1)) (.d (.int y)) (o ++ [F, .lst ((flipRow m hf a b).map .d)]) = .ok (.w (.d (.int (1 * y)))) (o ++ [F, .lst ((flipRow m hf a b).map .d)]) := fun y => bin_mult (mulOk_l (by omega) (by omega))
  have m3 : ∀ y, opD2 (binD .Mult) (.d (.int (-1))) (.d (.int y)) (o ++ [F, .lst ((flipRow m hf a b).map .d)]) = .ok (.w (.d (.int (-1 * y)))) (o ++ [F, .lst ((flipRow m hf a b).map .d)]) := fun y => bin_mult (mulOk_l (by omega) (by omega))
  unfold flipIn
  by_cases ha : (a : Int) < m
  · have ha2 : ¬ (m : Int) ≤ a := by omega
    by_cases hb : (m : Int) ≤ b
    · simp only [evB_cons, evB_nil, evS_set, evS_if, evS_ex, ev_ite, ev_cmp, ev_var, ev_c, ev_neg, ev_bin, ev_bi, ev_and, ev_mut, evA_cons, evA_nil, List.getElem?_cons_succ, List.getElem?_cons_zero, asW_w, bnd_ok, bndS_ok, asT_bl, thn_next, List.set_cons_succ, List.set_cons_zero, cmp_lt, cmp_ge, ha, ha2, hb, decide_true, decide_false, Bool.false_eq_true, if_true, if_false, neg_int, int_int, int_bl, bin_mod mz, bin_add, m1, m2, m3, cmp_ne_bl, kd, wd_eq]
      rw [ap _ (by simp [cellF, ha, ha2, hb])]
      exact ⟨_, _, _, rfl⟩
    · simp only [evB_cons, evB_nil, evS_set, evS_if, evS_ex, ev_ite, ev_cmp, ev_var, ev_c, ev_neg, ev_bin, ev_bi, ev_and, ev_mut, evA_cons, evA_nil, List.getElem?_cons_succ, List.getElem?_cons_zero, asW_w, bnd_ok, bndS_ok, asT_bl, thn_next, List.set_cons_succ, List.set_cons_zero, cmp_lt, cmp_ge, ha, ha2, hb, decide_true, decide_false, Bool.false_eq_true, if_true, if_false, neg_int, int_int, int_bl, bin_mod mz, bin_add, m1, m2, m3, cmp_ne_bl, kd, wd_eq]
      rw [ap _ (by simp [cellF, ha, ha2, hb])]
      exact ⟨_, _, _, rfl⟩
  · have ha2 : (m : Int) ≤ a := by omega
    by_cases hb : (m : Int) ≤ b
    · simp only [evB_cons, evB_nil, evS_set, evS_if, evS_ex, ev_ite, ev_cmp, ev_var, ev_c, ev_neg, ev_bin, ev_bi, ev_and, ev_mut, evA_cons, evA_nil, List.getElem?_cons_succ, List.getElem?_cons_zero, asW_w, bnd_ok, bndS_ok, asT_bl, thn_next, List.set_cons_succ, List.set_cons_zero, cmp_lt, cmp_ge, ha, ha2, hb, decide_true, decide_false, Bool.false_eq_true, if_true, if_false, neg_int, int_int, int_bl, bin_mod mz, bin_add, m1, m2, m3, cmp_ne_bl, kd, wd_eq]
      rw [ap _ (by simp [cellF, ha, ha2, hb])]
      exact ⟨_, _, _, rfl⟩
    · simp only [evB_cons, evB_nil, evS_set, evS_if, evS_ex, ev_ite, ev_cmp, ev_var, ev_c, ev_neg, ev_bin, ev_bi, ev_and, ev_mut, evA_cons, evA_nil, List.getElem?_cons_succ, List.getElem?_cons_zero, asW_w, bnd_ok, bndS_ok, asT_bl, thn_next, List.set_cons_succ, List.set_cons_zero, cmp_lt, cmp_ge, ha, ha2, hb, decide_true, decide_false, Bool.false_eq_true, if_true, if_false, neg_int, int_int, int_bl, bin_mod mz, bin_add, m1, m2, m3, cmp_ne_bl, kd, wd_eq]
      rw [ap _ (by simp [cellF, ha, ha2, hb])]
      exact ⟨_, _, _, rfl⟩
theorem flip_out (hm : 0 < m) (hm2 : m ≤ 16) (hw : 40 < wf) {a : Nat} (ha : a < 2 * m) :
    evB ⟨T, cal, wf, t, none⟩ flipOut [some (.d (.int m)), some (.d (.int hf)), some (.loc o.length), some (.d (.int a)), none, none, none, none, none] (o ++ [.lst ((flipRows m hf a).map .d)]) =
      .next [some (.d (.int m)), some (.d (.int hf)), some (.loc o.length), some (.d (.int a)), some (.loc (o.length + 1)), none, none, none, none] (o ++ [.lst ((flipRows m hf (a + 1)).map .d), .lst ((flipRow m hf a (2 * m)).map .d)]) := by
  let F : Ob := .lst ((flipRows m hf a).map .d)
  let σ : Sg := [some (.d (.int m)), some (.d (.int hf)), some (.loc o.length), some (.d (.int a)), some (.loc (o.length + 1)), none, none, none, none]
  have e2 : (2 : Int) * m = ((2 * m : Nat) : Int) := by omega
  have lp := for_rng (cx := ⟨T, cal, wf, t, none⟩) (i := 5) (n := 2 * m) (as := (.cons (.bin .Mult (.c (.int 2)) (.var 0)) .nil)) (kill := [5, 6, 7, 8]) (b := flipIn) (o := o) (fun _ => σ) (fun j => o ++ [F, .lst ((flipRow m hf a j).map .d)])
    (by
      simp only [σ, evA_cons, evA_nil, ev_bin, ev_c, ev_var, List.getElem?_cons_succ, List.getElem?_cons_zero, asW_w, bnd_ok, bin_mult (mulOk_l (i := 2) (j := m) (by omega) (by omega)), e2]) (by unfold line; omega) (by show 2 * m < wf; omega) (fun b hb => by
      obtain ⟨x, y, z, e⟩ := flip_in (T := T) (wf := wf) (t := t) (cal := cal) (o := o) (hf := hf) hm hm2 (a := a) hb (F := F)
      simp only [σ, List.set_cons_succ, List.set_cons_zero]
      rw [e]
      have hlen : (o ++ [F, Ob.lst ((flipRow m hf a 0).map .d)]).length = o.length + 2 := by simp
      rw [hlen]
      simp [clean, killAll, trunc, under]
      exact tk2)
  have h0 : (o ++ [F])[o.length]? = some F := ap0
  unfold flipOut
  rw [evB_cons]
  have al : evE ⟨T, cal, wf, t, none⟩ (.alloc (.lst .nil)) [some (.d (.int m)), some (.d (.int hf)), some (.loc o.length), some (.d (.int a)), none, none, none, none, none] (o ++ [F]) = .ok (.w (.loc (o.length + 1))) (o ++ [F, .lst ((flipRow m hf a 0).map .d)]) := by
    simp [lstR, allocR, flipRow]
  have al2 := al
  show thn (evS _ _ _ (o ++ [F])) _ = _
  simp only [evS_set, al2, asW_w, bndS_ok, thn_next, List.set_cons_succ, List.set_cons_zero]
  rw [evB_cons]
  have lp2 := lp
  simp only [σ] at lp2
  rw [lp2, thn_next]
  rw [evB_cons]
  have kd : kindW (o ++ [F, .lst ((flipRow m hf a (2 * m)).map .d)]) (.loc o.length) = some true := kind_loc ap01
  have tp : opDs (biD Bi.tup) [.loc (o.length + 1)] (o ++ [F, .lst ((flipRow m hf a (2 * m)).map .d)]) = .ok (.w (.d (.tup (flipRow m hf a (2 * m))))) (o ++ [F, .lst ((flipRow m hf a (2 * m)).map .d)]) := tup_loc ap1
  have hl : ((flipRows m hf a).map W.d).length < line := by
    unfold flipRows line
    simp
    omega
  have ap : mutR Mt.append (.loc o.length) [.d (.tup (flipRow m hf a (2 * m)))] (o ++ [F, .lst ((flipRow m hf a (2 * m)).map .d)]) = .ok (.w (.d .non)) (o ++ [.lst ((flipRows m hf (a + 1)).map .d), .lst ((flipRow m hf a (2 * m)).map .d)]) := by
    rw [mut_app (ws := (flipRows m hf a).map .d) ap01 hl, st01]
    unfold flipRows
    rw [List.range_succ, List.map_append, List.map_append] <;> rfl
  simp only [evS_ex, ev_mut, ev_bi, evA_cons, evA_nil, ev_var, List.getElem?_cons_succ, List.getElem?_cons_zero, asW_w, bnd_ok, kd, tp, ap, bndS_ok, thn_next, evB_nil]
theorem r_flips {i : Nat} (h : Has T i ⟨2, 9, bFlips⟩) (hm : 0 < m) (hm2 : m ≤ 16) (hw : 40 < wf) : run T wf (d + 1) i t [.d (.int m), .d (.int hf)] o = .ok (.w (.d (.tup (flipRows m hf (2 * m))))) o := by
  rw [run_has h rfl]
  let σ : Sg := [some (.d (.int m)), some (.d (.int hf)), some (.loc o.length), none, none, none, none, none, none]
  have e2 : (2 : Int) * m = ((2 * m : Nat) : Int) := by omega
  have lp := for_rng (cx := ⟨T, run T wf d, wf, t, none⟩) (i := 3) (n := 2 * m) (as := (.cons (.bin .Mult (.c (.int 2)) (.var 0)) .nil)) (kill := [3, 4, 5, 6, 7, 8]) (b := flipOut) (o := o) (fun _ => σ) (fun j => o ++ [.lst ((flipRows m hf j).map .d)])
    (by
      simp only [σ, evA_cons, evA_nil, ev_bin, ev_c, ev_var, List.getElem?_cons_succ, List.getElem?_cons_zero, asW_w, bnd_ok, bin_mult (mulOk_l (i := 2) (j := m) (by omega) (by omega)), e2]) (by unfold line; omega) (by show 2 * m < wf; omega) (fun a ha => by
      have e := flip_out (T := T) (wf := wf) (t := t) (cal := run T wf d) (o := o) (hf := hf) hm hm2 hw ha
      simp only [σ, List.set_cons_succ, List.set_cons_zero]
      rw [e]
      have hlen : (o ++ [Ob.lst ((flipRows m hf 0).map .d)]).length = o.length + 1 := by simp
      rw [hlen]
      simp [clean, killAll, trunc, under]
      exact tk1)
  unfold bFlips
  simp only [List.map_cons, List.map_nil, List.replicate, List.cons_append, List.nil_append, Nat.reduceSub, List.append_eq]
  rw [evB_cons]
  have al : evE ⟨T, run T wf d, wf, t, none⟩ (.alloc (.lst .nil)) [some (.d (.int m)), some (.d (.int hf)), none, none, none, none, none, none, none] o = .ok (.w (.loc o.length)) (o ++ [.lst ((flipRows m hf 0).map .d)]) := by
    simp [lstR, allocR, flipRows]
  simp only [evS_set, al, asW_w, bndS_ok, thn_next, List.set_cons_succ, List.set_cons_zero]
  rw [evB_cons]
  simp only [σ] at lp
  rw [lp, thn_next, evB_cons]
  have tp : opDs (biD Bi.tup) [.loc o.length] (o ++ [.lst ((flipRows m hf (2 * m)).map .d)]) = .ok (.w (.d (.tup (flipRows m hf (2 * m))))) (o ++ [.lst ((flipRows m hf (2 * m)).map .d)]) := tup_loc ap0
  simp only [evS_ret, ev_bi, evA_cons, evA_nil, ev_var, List.getElem?_cons_succ, List.getElem?_cons_zero, asW_w, bnd_ok, tp, bndS_ok, thn_ret, retR_d, tk0]
end
end Mi.N
end
section
set_option linter.all false
set_option Elab.async false
set_option maxHeartbeats 1000000
set_option autoImplicit false
namespace Mi.N
open PySem (Str Operator CmpOp)
def pairIn : B := (.cons (.set 7 (.bin .Mult (.idx (.idx (.var 0) (.bin .FloorDiv (.var 4) (.var 2))) (.bin .FloorDiv (.var 6) (.var 2))) (.var 2)))
    (.cons (.ex (.mut Mt.append (.var 5) (.cons (.bin .Add (.var 7) (.idx (.idx (.var 1) (.bin .Mod (.bi Bi.int (.cons (.var 4) .nil)) (.var 2))) (.bin .Mod (.bi Bi.int (.cons (.var 6) .nil)) (.var 2)))) .nil)))
    .nil))
def pairOut : B := (.cons (.set 5 (.alloc (.lst .nil)))
    (.cons (.for (.n 6) (.range (.cons (.bin .Mult (.bi Bi.len (.cons (.var 0) .nil)) (.var 2)) .nil)) [6, 7] pairIn)
    (.cons (.ex (.mut Mt.append (.var 3) (.cons (.bi Bi.tup (.cons (.var 5) .nil)) .nil)))
    .nil)))
def bPairs : B :=
    (.cons (.par (.cons (.n 2) (.cons (.n 3) .nil)) (.cons (.bi Bi.len (.cons (.var 1) .nil)) (.cons (.alloc (.lst .nil)) .nil)))
    (.cons (.for (.n 4) (.range (.cons (.bin .Mult (.bi Bi.len (.cons (.var 0) .nil)) (.var 2)) .nil)) [4, 5, 6, 7] pairOut)
    (.cons (.ret (.bi Bi.tup (.cons (.var 3) .nil)))
    .nil)))
def cellP (P Q : List (List Nat)) (s a b : Nat) : Nat := nth (rowAt P (a / s)) (b / s) * s + nth (rowAt Q (a % s)) (b % s)
def pairRow (P Q : List (List Nat)) (s a n : Nat) : List Nat := (List.range n).map fun b => cellP P Q s a b
def pairR (P Q : List (List Nat)) (p s : Nat) : List (List Nat) := (List.range (p * s)).map fun a => pairRow P Q s a (p * s)
def pairRows (P Q : List (List Nat)) (p s n : Nat) : List (List Nat) := (List.range n).map fun a => pairRow P Q s a (p * s)
section
variable {T : Tab} {wf d : Nat} {t : Option Thk} {cur : Option Ex} {o : List Ob} {p s : Nat} {P Q : List (List Nat)} {cal : Cal}
theorem len_tab {R : List (List Nat)} {m : Nat} (S : Sq m R) : opDs (biD Bi.len) [.d (tabD R)] o = .ok (.w (.d (.int m))) o := by
  have := len_tup (tabL R) o
  rw [tabL_len, S.len] at this
  exact this
theorem pair_in (SP : Sq p P) (SQ : Sq s Q) (hs : 0 < s) (hs2 : s ≤ 64) (hps : p * s ≤ 64) {a b : Nat} (ha : a < p * s) (hb : b < p * s) {F : Ob} :
    ∃ x, evB ⟨T, cal, wf, t, none⟩ pairIn [some (.d (tabD P)), some (.d (tabD Q)), some (.d (.int s)), some (.loc o.length), some (.d (.int a)), some (.loc (o.length + 1)), some (.d (.int b)), none] (o ++ [F, .lst ((intL (pairRow P Q s a b)).map .d)]) =
      .next [some (.d (tabD P)), some (.d (tabD Q)), some (.d (.int s)), some (.loc o.length), some (.d (.int a)), some (.loc (o.length + 1)), some (.d (.int b)), x] (o ++ [F, .lst ((intL (pairRow P Q s a (b + 1))).map .d)]) := by
  have sz : (s : Int) ≠ 0 := by omega
  have sab : (s : Int).natAbs < 1073741824 := by omega
  have hl : ((intL (pairRow P Q s a b)).map W.d).length < line := by
    unfold pairRow line
    simp
    omega
  have a1 : a / s < p := Nat.div_lt_of_lt_mul (by rw [Nat.mul_comm]; exact ha)
  have b1 : b / s < p := Nat.div_lt_of_lt_mul (by rw [Nat.mul_comm]; exact hb)
  have a2 : a % s < s := Nat.mod_lt _ hs
  have b2 : b % s < s := Nat.mod_lt _ hs
  have ap : mutR Mt.append (.loc (o.length + 1)) [.d (.int (cellP P Q s a b : Nat))] (o ++ [F, .lst ((intL (pairRow P Q s a b)).map .d)]) = .ok (.w (.d .non)) (o ++ [F, .lst ((intL (pairRow P Q s a (b + 1))).map .d)]) := by
    rw [mut_app ap1 hl, st1]
    unfold pairRow intL
    rw [List.range_succ, List.map_append, List.map_append, List.map_append] <;> rfl
  have kd : kindW (o ++ [F, .lst ((intL (pairRow P Q s a b)).map .d)]) (.loc (o.length + 1)) = some true := kind_loc ap1
  have e1 : ∀ o, idxW o (.d (rowD (rowAt P (a / s)))) (.int ((b / s : Nat) : Int)) = some (.d (.int (nth (rowAt P (a / s)) (b / s) : Nat))) := fun o => idx_rowD (by rw [SP.getl a1]; exact b1)
  have e2 : ∀ o, idxW o (.d (rowD (rowAt Q (a % s)))) (.int ((b % s : Nat) : Int)) = some (.d (.int (nth (rowAt Q (a % s)) (b % s) : Nat))) := fun o => idx_rowD (by rw [SQ.getl a2]; exact b2)
  have e3 : ∀ o, idxW o (.d (tabD P)) (.int ((a / s : Nat) : Int)) = some (.d (rowD (rowAt P (a / s)))) := fun o => idx_tabD SP a1
  have e4 : ∀ o, idxW o (.d (tabD Q)) (.int ((a % s : Nat) : Int)) = some (.d (rowD (rowAt Q (a % s)))) := fun o => idx_tabD SQ a2
  have ec : (nth (rowAt P (a / s)) (b / s) : Int) * (s : Int) + (nth (rowAt Q (a % s)) (b % s) : Int) = (cellP P Q s a b : Nat) := by
    unfold cellP
    rw [Int.natCast_add, Int.natCast_mul]
  have mu : ∀ x : Int, ∀ o : List Ob, opD2 (binD .Mult) (.d (.int x)) (.d (.int s)) o = .ok (.w (.d (.int (x * s)))) o := fun x o => bin_mult (mulOk_r (by omega) (by omega))
  unfold pairIn
  simp only [evB_cons, evB_nil, evS_set, evS_ex, ev_var, ev_bin, ev_bi, ev_idx, ev_mut, evA_cons, evA_nil, List.getElem?_cons_succ, List.getElem?_cons_zero, asW_w, bnd_ok, bndS_ok, thn_next, List.set_cons_succ, List.set_cons_zero, int_int, bin_mod sz, bin_fdiv sz sab, fmod_nat, fdiv_nat, idxR, view_d, e1, e2, e3, e4, Option.map_some, okO_some, mu, bin_add, ec, kd, ap]
  exact ⟨_, rfl⟩
theorem pair_rng (SP : Sq p P) (hps : p * s ≤ 64) (hs2 : s ≤ 64) {σ : Sg} (h0 : σ[0]? = some (some (.d (tabD P)))) (h2 : σ[2]? = some (some (.d (.int s)))) : evA ⟨T, cal, wf, t, none⟩ (.cons (.bin .Mult (.bi Bi.len (.cons (.var 0) .nil)) (.var 2)) .nil) σ o = .ok [.d (.int (p * s : Nat))] o := by
  have e : (p : Int) * (s : Int) = ((p * s : Nat) : Int) := by rw [Int.natCast_mul]
  simp only [evA_cons, evA_nil, ev_bin, ev_bi, ev_var, h0, h2, asW_w, bnd_ok, len_tab SP, bin_mult (mulOk_r (i := p) (j := s) (by omega) (by omega)), e]
theorem pair_out (SP : Sq p P) (SQ : Sq s Q) (hs : 0 < s) (hs2 : s ≤ 64) (hps : p * s ≤ 64) (hw : 70 < wf) {a : Nat} (ha : a < p * s) :
    evB ⟨T, cal, wf, t, none⟩ pairOut [some (.d (tabD P)), some (.d (tabD Q)), some (.d (.int s)), some (.loc o.length), some (.d (.int a)), none, none, none] (o ++ [.lst ((tabL (pairRows P Q p s a)).map .d)]) =
      .next [some (.d (tabD P)), some (.d (tabD Q)), some (.d (.int s)), some (.loc o.length), some (.d (.int a)), some (.loc (o.length + 1)), none, none] (o ++ [.lst ((tabL (pairRows P Q p s (a + 1))).map .d), .lst ((intL (pairRow P Q s a (p * s))).map .d)]) := by
  let F : Ob := .lst ((tabL (pairRows P Q p s a)).map .d)
  let σ : Sg := [some (.d (tabD P)), some (.d (tabD Q)), some (.d (.int s)), some (.loc o.length), some (.d (.int a)), some (.loc (o.length + 1)), none, none]
  have lp := for_rng (cx := ⟨T, cal, wf, t, none⟩) (i := 6) (n := p * s) (as := (.cons (.bin .Mult (.bi Bi.len (.cons (.var 0) .nil)) (.var 2)) .nil)) (kill := [6, 7]) (b := pairIn) (o := o) (fun _ => σ) (fun j => o ++ [F, .lst ((intL (pairRow P Q s a j)).map .d)])
    (pair_rng SP hps hs2 rfl rfl) (by unfold line; omega) (by show p * s < wf; omega) (fun b hb => by
      obtain ⟨x, e⟩ := pair_in (T := T) (wf := wf) (t := t) (cal := cal) (o := o) SP SQ hs hs2 hps ha hb (F := F)
      simp only [σ, List.set_cons_succ, List.set_cons_zero]
      rw [e]
      have hlen : (o ++ [F, Ob.lst ((intL (pairRow P Q s a 0)).map .d)]).length = o.length + 2 := by simp
      rw [hlen]
      simp [clean, killAll, trunc, under]
      exact tk2)
  unfold pairOut
  rw [evB_cons]
  have al : evE ⟨T, cal, wf, t, none⟩ (.alloc (.lst .nil)) [some (.d (tabD P)), some (.d (tabD Q)), some (.d (.int s)), some (.loc o.length), some (.d (.int a)), none, none, none] (o ++ [F]) = .ok (.w (.loc (o.length + 1))) (o ++ [F, .lst ((intL (pairRow P Q s a 0)).map .d)]) := by
    simp [lstR, allocR, pairRow, intL]
  show thn (evS _ _ _ (o ++ [F])) _ = _
  simp only [evS_set, al, asW_w, bndS_ok, thn_next, List.set_cons_succ, List.set_cons_zero]
  rw [evB_cons]
  simp only [σ] at lp
  rw [lp, thn_next]
  rw [evB_cons]
  have kd : kindW (o ++ [F, .lst ((intL (pairRow P Q s a (p * s))).map .d)]) (.loc o.length) = some true := kind_loc ap01
  have tp : opDs (biD Bi.tup) [.loc (o.length + 1)] (o ++ [F, .lst ((intL (pairRow P Q s a (p * s))).map .d)]) = .ok (.w (.d (rowD (pairRow P Q s a (p * s))))) (o ++ [F, .lst ((intL (pairRow P Q s a (p * s))).map .d)]) := tup_loc ap1
  have hl : ((tabL (pairRows P Q p s a)).map W.d).length < line := by
    unfold pairRows line
    simp
    omega
  have ap : mutR Mt.append (.loc o.length) [.d (rowD (pairRow P Q s a (p * s)))] (o ++ [F, .lst ((intL (pairRow P Q s a (p * s))).map .d)]) = .ok (.w (.d .non)) (o ++ [.lst ((tabL (pairRows P Q p s (a + 1))).map .d), .lst ((intL (pairRow P Q s a (p * s))).map .d)]) := by
    rw [mut_app (ws := (tabL (pairRows P Q p s a)).map .d) ap01 hl, st01]
    unfold pairRows tabL
    rw [List.range_succ, List.map_append, List.map_append, List.map_append] <;> rfl
  simp only [evS_ex, ev_mut, ev_bi, evA_cons, evA_nil, ev_var, List.getElem?_cons_succ, List.getElem?_cons_zero, asW_w, bnd_ok, kd, tp, ap, bndS_ok, thn_next, evB_nil]
theorem r_pairs {i : Nat} (h : Has T i ⟨2, 8, bPairs⟩) (SP : Sq p P) (SQ : Sq s Q) (hs : 0 < s) (hs2 : s ≤ 64) (hps : p * s ≤ 64) (hw : 70 < wf) : run T wf (d + 1) i t [.d (tabD P), .d (tabD Q)] o = .ok (.w (.d (tabD (pairR P Q p s)))) o := by
  rw [run_has h rfl]
  let σ : Sg := [some (.d (tabD P)), some (.d (tabD Q)), some (.d (.int s)), some (.loc o.length), none, none, none, none]
  have lp := for_rng (cx := ⟨T, run T wf d, wf, t, none⟩) (i := 4) (n := p * s) (as := (.cons (.bin .Mult (.bi Bi.len (.cons (.var 0) .nil)) (.var 2)) .nil)) (kill := [4, 5, 6, 7]) (b := pairOut) (o := o) (fun _ => σ) (fun j => o ++ [.lst ((tabL (pairRows P Q p s j)).map .d)])
    (pair_rng SP hps hs2 rfl rfl) (by unfold line; omega) (by show p * s < wf; omega) (fun a ha => by
      have e := pair_out (T := T) (wf := wf) (t := t) (cal := run T wf d) (o := o) SP SQ hs hs2 hps hw ha
      simp only [σ, List.set_cons_succ, List.set_cons_zero]
      rw [e]
      have hlen : (o ++ [Ob.lst ((tabL (pairRows P Q p s 0)).map .d)]).length = o.length + 1 := by simp
      rw [hlen]
      simp [clean, killAll, trunc, under]
      exact tk1)
  unfold bPairs
  simp only [List.map_cons, List.map_nil, List.replicate, List.cons_append, List.nil_append, Nat.reduceSub, List.append_eq]
  rw [evB_cons]
  have al : ∀ cx σ, evE cx (.alloc (.lst .nil)) σ o = .ok (.w (.loc o.length)) (o ++ [.lst ((tabL (pairRows P Q p s 0)).map .d)]) := fun cx σ => by
    simp [lstR, allocR, pairRows, tabL]
  simp only [evS_par, evA_cons, evA_nil, ev_bi, ev_var, List.getElem?_cons_succ, List.getElem?_cons_zero, asW_w, bnd_ok, len_tab SQ, al, bndS_ok, bindTs, bindT, thn_next, List.set_cons_succ, List.set_cons_zero]
  rw [evB_cons]
  simp only [σ] at lp
  rw [lp, thn_next, evB_cons]
  have tp : opDs (biD Bi.tup) [.loc o.length] (o ++ [.lst ((tabL (pairRows P Q p s (p * s))).map .d)]) = .ok (.w (.d (tabD (pairRows P Q p s (p * s))))) (o ++ [.lst ((tabL (pairRows P Q p s (p * s))).map .d)]) := tup_loc ap0
  simp only [evS_ret, ev_bi, evA_cons, evA_nil, ev_var, List.getElem?_cons_succ, List.getElem?_cons_zero, asW_w, bnd_ok, tp, bndS_ok, thn_ret, retR_d, tk0]
  rfl
end
end Mi.N
end
section
set_option linter.all false
set_option Elab.async false
set_option maxHeartbeats 1000000
set_option autoImplicit false
namespace Mi.N
open PySem (Str Operator CmpOp)
def bNames (iDraw : Nat) : B :=
    (.cons (.par (.cons (.n 2) (.cons (.n 3) .nil)) (.cons (.alloc (.coll Bi.lst (.cons (.c (.int 1)) (.cons (.var 1) .nil)))) (.cons (.alloc (.lst (.cons (.c (.int 0)) .nil))) .nil)))
    (.cons (.while (.cmp .NotEq (.var 2) (.lst .nil)) []
    (.cons (.ex (.mut Mt.append (.var 3) (.cons (.mut Mt.pop (.var 2) (.cons (.call iDraw (.cons (.var 0) (.cons (.bi Bi.len (.cons (.var 2) .nil)) .nil))) .nil)) .nil)))
    .nil))
    (.cons (.ret (.bi Bi.tup (.cons (.var 3) .nil)))
    .nil)))
/-- names: all numbers, the first nought -/
structure Names (m : Nat) (p : List Nat) : Prop where
  perm : p.Perm (List.range m)
  zero : nth p 0 = 0
theorem Names.len {m : Nat} {p : List Nat} (N : Names m p) : p.length = m := by
  have := N.perm.length_eq
  rwa [List.length_range] at this
/-- two lists behind the store, the hand in it -/
def st2 (o : List Ob) (n : Nat) (h : Ob) (l f : List Nat) : List Ob := o.set n h ++ [.lst ((intL l).map .d), .lst ((intL f).map .d)]
theorem evS_while {cx : Cx} {c : E} {kill : List Nat} {b : B} {σ : Sg} {o : List Ob} : evS cx (.while c kill b) σ o = whileN (fun σ o => asT (evE cx c σ o)) (fun σ o1 => clean o.length kill (evB cx b σ o1)) cx.wf σ o := Eq.trans rfl rfl
section
variable {T : Tab} {wf d : Nat} {t : Option Thk} {cur : Option Ex} {o : List Ob} {n : Nat} {h : Ob} {l f : List Nat} {cal : Cal}
theorem st2_hand (hn : n < o.length) : (st2 o n h l f)[n]? = some h := by
  unfold st2
  rw [List.getElem?_append_left (by rw [List.length_set]; exact hn)]
  exact List.getElem?_set_self hn
theorem st2_set {h' : Ob} (hn : n < o.length) : (st2 o n h l f).set n h' = st2 o n h' l f := by
  unfold st2
  rw [List.set_append_left _ _ (by rw [List.length_set]; exact hn), List.set_set]
theorem st2_len : (st2 o n h l f).length = o.length + 2 := by simp [st2]
theorem st2_l : (st2 o n h l f)[o.length]? = some (.lst ((intL l).map .d)) := by
  have := ap01 (o := o.set n h) (a := .lst ((intL l).map .d)) (b := .lst ((intL f).map .d))
  rw [List.length_set] at this
  exact this
theorem st2_f : (st2 o n h l f)[o.length + 1]? = some (.lst ((intL f).map .d)) := by
  have := ap1 (o := o.set n h) (a := .lst ((intL l).map .d)) (b := .lst ((intL f).map .d))
  rw [List.length_set] at this
  exact this
theorem st2_sl {l' : List Nat} : (st2 o n h l f).set o.length (.lst ((intL l').map .d)) = st2 o n h l' f := by
  have := st01 (o := o.set n h) (a := .lst ((intL l).map .d)) (b := .lst ((intL f).map .d)) (c := .lst ((intL l').map .d))
  rw [List.length_set] at this
  exact this
theorem st2_sf {f' : List Nat} : (st2 o n h l f).set (o.length + 1) (.lst ((intL f').map .d)) = st2 o n h l f' := by
  have := st1 (o := o.set n h) (a := .lst ((intL l).map .d)) (b := .lst ((intL f).map .d)) (c := .lst ((intL f').map .d))
  rw [List.length_set] at this
  exact this
theorem deeps_int (o : List Ob) (k : Nat) : ∀ xs : List D, (xs.map W.d).mapM (deep o k) = some xs
  | [] => rfl
  | x :: xs => by
    rw [List.map_cons, List.mapM_cons]
    have e : deep o k (.d x) = some x := by cases k <;> rfl
    rw [e, deeps_int o k xs]
    rfl
theorem deep_loc {k : Nat} {xs : List D} (hk : o[k]? = some (.lst (xs.map .d))) : deep o 60 (.loc k) = some (.lst xs) := by
  show (match o[k]? with | some (.lst ws) => (ws.mapM (deep o 59)).map D.lst | some (.dct kvs) => (allDkv kvs).map .dct | some (.ins c fs) => (allDfs fs).map (.obj c) | _ => none) = _
  rw [hk]
  show ((xs.map W.d).mapM (deep o 59)).map D.lst = _
  rw [deeps_int] <;> rfl
theorem ne_nil {cx : Cx} {k : Nat} {l : List Nat} (hk : o[k]? = some (.lst ((intL l).map .d))) : cmpW cx .NotEq (.loc k) (.d (.lst [])) o = .ok (.w (.d (.bl (!decide (l = []))))) o := by
  have e : deep o 60 (.d (.lst [])) = some (.lst []) := rfl
  unfold cmpW
  simp only [deep_loc hk, e]
  rw [plain_lint]
  have e2 : eqD (.lst (intL l)) (.lst []) = decide (l = []) := eqDs_int l []
  rw [e2]
  rfl
theorem mut_pop {k : Nat} {ws : List W} {j : Nat} {w : W} (hk : o[k]? = some (.lst ws)) (hj : ws[j]? = some w) : mutR Mt.pop (.loc k) [.d (.int (j : Nat))] o = .ok (.w w) (o.set k (.lst (ws.eraseIdx j))) := by
  show mutW Mt.pop k [.d (.int (j : Nat))] o = _
  have hlt : j < ws.length := (List.getElem?_eq_some_iff.mp hj).1
  unfold mutW
  rw [hk]
  show (match ixN ws.length (j : Int) with | some j => (match ws[j]? with | some w => R.ok (Val.w w) (o.set k (.lst (ws.eraseIdx j))) | none => .bad) | none => .bad) = _
  rw [ixN_nat hlt]
  show (match ws[j]? with | some w => R.ok (Val.w w) (o.set k (.lst (ws.eraseIdx j))) | none => .bad) = _
  rw [hj]
theorem erase_map {α β : Type} (g : α → β) : ∀ (l : List α) (k : Nat), (l.map g).eraseIdx k = (l.eraseIdx k).map g
  | [], k => by simp
  | x :: xs, 0 => rfl
  | x :: xs, k + 1 => by
    show g x :: (xs.map g).eraseIdx k = g x :: (xs.eraseIdx k).map g
    rw [erase_map g xs k]
theorem erase_perm {α : Type} : ∀ (l : List α) (k : Nat) (hk : k < l.length), (l[k] :: l.eraseIdx k).Perm l
  | x :: xs, 0, _ => List.Perm.refl _
  | x :: xs, k + 1, h => by
    have hk : k < xs.length := by simpa using h
    show (xs[k] :: x :: xs.eraseIdx k).Perm (x :: xs)
    exact (List.Perm.swap _ _ _).trans (List.Perm.cons x (erase_perm xs k hk))
theorem collR_two {o : List Ob} {i j : Int} (h1 : rngOk i = true) (h2 : rngOk j = true) (hl : (j - i).toNat ≤ line) : collR Bi.lst [.d (.int i), .d (.int j)] o = .ok (flD (rngsD i (j - i).toNat)) o := by
  unfold collR
  simp only [h1, h2, Bool.and_self, if_true, hl]
  rfl
theorem while_step {test : Sg → List Ob → R Bool} {body : Sg → List Ob → SR} {k : Nat} {σ σ' : Sg} {o o1 o' : List Ob} (h : test σ o = .ok true o1) (h2 : body σ o1 = .next σ' o') : whileN test body (k + 1) σ o = whileN test body k σ' o' := by
  conv => lhs; unfold whileN
  rw [h]
  show (match body σ o1 with | .next σ' o' => whileN test body k σ' o' | .brk σ' o' => .next σ' o' | .cont _ _ => .bad | r => r) = _
  rw [h2]
theorem while_stop {test : Sg → List Ob → R Bool} {body : Sg → List Ob → SR} {k : Nat} {σ : Sg} {o o1 : List Ob} (h : test σ o = .ok false o1) : whileN test body (k + 1) σ o = .next σ o1 := by
  unfold whileN
  rw [h]
def namesBody (iDraw : Nat) : B := (.cons (.ex (.mut Mt.append (.var 3) (.cons (.mut Mt.pop (.var 2) (.cons (.call iDraw (.cons (.var 0) (.cons (.bi Bi.len (.cons (.var 2) .nil)) .nil))) .nil)) .nil)))
    .nil)
theorem names_turn {iDraw : Nat} {m : Option W} (hd : Has T iDraw ⟨2, 5, bDraw⟩) (hh : IsHand h) (hn : n < o.length) (hl : 0 < l.length) (hl2 : l.length + f.length ≤ 64) :
    ∃ (k : Nat) (h' : Ob) (hk : k < l.length), IsHand h' ∧ evB ⟨T, run T wf (d + 1), wf, t, none⟩ (namesBody iDraw) [some (.loc n), m, some (.loc o.length), some (.loc (o.length + 1))] (st2 o n h l f) =
      .next [some (.loc n), m, some (.loc o.length), some (.loc (o.length + 1))] (st2 o n h' (l.eraseIdx k) (f ++ [l[k]])) := by
  obtain ⟨k, h', hk, hh', e⟩ := r_draw (T := T) (wf := wf) (d := d) (t := none) (m := l.length) hd hh (st2_hand (l := l) (f := f) hn) hl (by omega)
  refine ⟨k, h', hk, hh', ?_⟩
  rw [st2_set hn] at e
  have kd : kindW (st2 o n h l f) (.loc (o.length + 1)) = some true := kind_loc st2_f
  have kd2 : kindW (st2 o n h l f) (.loc o.length) = some true := kind_loc st2_l
  have ln : opDs (biD Bi.len) [.loc o.length] (st2 o n h l f) = .ok (.w (.d (.int l.length))) (st2 o n h l f) := by
    have := len_loc (st2_l (o := o) (n := n) (h := h) (l := l) (f := f))
    rw [intL_len] at this
    exact this
  have pp : mutR Mt.pop (.loc o.length) [.d (.int (k : Nat))] (st2 o n h' l f) = .ok (.w (.d (.int (l[k] : Nat)))) (st2 o n h' (l.eraseIdx k) f) := by
    rw [mut_pop (w := .d (.int (l[k] : Nat))) st2_l (by rw [List.getElem?_map, intL_get, List.getElem?_eq_getElem hk] <;> rfl)]
    unfold intL
    rw [erase_map, erase_map]
    exact congrArg _ st2_sl
  have ap : mutR Mt.append (.loc (o.length + 1)) [.d (.int (l[k] : Nat))] (st2 o n h' (l.eraseIdx k) f) = .ok (.w (.d .non)) (st2 o n h' (l.eraseIdx k) (f ++ [l[k]])) := by
    rw [mut_app st2_f (by simp [line]; omega)]
    have e3 : (intL f).map W.d ++ [W.d (.int (l[k] : Nat))] = (intL (f ++ [l[k]])).map W.d := by
      unfold intL
      rw [List.map_append, List.map_append] <;> rfl
    rw [e3]
    exact congrArg _ st2_sf
  unfold namesBody
  simp only [evB_cons, evB_nil, evS_ex, ev_mut, ev_call, ev_bi, ev_var, evA_cons, evA_nil, List.getElem?_cons_succ, List.getElem?_cons_zero, asW_w, bnd_ok, kd, kd2, ln, e, pp, ap, bndS_ok, thn_next]
theorem names_loop {iDraw : Nat} {m : Option W} (hd : Has T iDraw ⟨2, 5, bDraw⟩) (hn : n < o.length) : ∀ (c fuel : Nat) (h : Ob) (l f : List Nat), l.length = c → c < fuel → IsHand h → l.length + f.length ≤ 64 → 0 < f.length →
    ∃ (h' : Ob) (f' : List Nat), IsHand h' ∧ (f').Perm (f ++ l) ∧ nth f' 0 = nth f 0 ∧ f'.length ≤ 64 ∧ whileN (fun σ o => asT (evE ⟨T, run T wf (d + 1), wf, t, none⟩ (.cmp .NotEq (.var 2) (.lst .nil)) σ o)) (fun σ o1 => clean (o.length + 2) [] (evB ⟨T, run T wf (d + 1), wf, t, none⟩ (namesBody iDraw) σ o1)) fuel
      [some (.loc n), m, some (.loc o.length), some (.loc (o.length + 1))] (st2 o n h l f) = .next [some (.loc n), m, some (.loc o.length), some (.loc (o.length + 1))] (st2 o n h' [] f')
  | c, 0, h, l, f, hc, hf, hh, hl, hf0 => absurd hf (Nat.not_lt_zero _)
  | c, fuel + 1, h, l, f, hc, hf, hh, hl, hf0 => by
    have te : asT (evE ⟨T, run T wf (d + 1), wf, t, none⟩ (.cmp .NotEq (.var 2) (.lst .nil)) [some (.loc n), m, some (.loc o.length), some (.loc (o.length + 1))] (st2 o n h l f)) = .ok (!decide (l = [])) (st2 o n h l f) := by
      have e0 : asW (lstR [] (st2 o n h l f)) = .ok (.d (.lst [])) (st2 o n h l f) := by
        simp [lstR]
        exact asW_fl [] _
      simp only [ev_cmp, ev_lst, ev_var, evA_nil, List.getElem?_cons_succ, List.getElem?_cons_zero, asW_w, bnd_ok, e0, ne_nil st2_l, asT_bl]
    cases l with
    | nil =>
      refine ⟨h, f, hh, by rw [List.append_nil], rfl, by simpa using hl, ?_⟩
      exact while_stop te
    | cons x xs =>
      have hl0 : 0 < (x :: xs).length := by simp
      obtain ⟨k, h', hk, hh', e⟩ := names_turn (T := T) (wf := wf) (d := d) (t := t) (m := m) hd hh hn hl0 hl
      have hle : ((x :: xs).eraseIdx k).length = xs.length := by
        rw [List.length_eraseIdx_of_lt hk] <;> rfl
      obtain ⟨h2, f2, hh2, p2, z2, l2, e2⟩ := names_loop (m := m) hd hn xs.length fuel h' ((x :: xs).eraseIdx k) (f ++ [(x :: xs)[k]]) hle (by simp at hc; omega) hh' (by rw [hle]; simp at hl ⊢; omega) (by simp)
      refine ⟨h2, f2, hh2, p2.trans ?_, z2.trans ?_, l2, ?_⟩
      · rw [List.append_assoc]
        refine List.Perm.append_left f ?_
        exact erase_perm _ k hk
      · cases f with
        | nil => cases hf0
        | cons a as => rfl
      · have dn : (!decide (x :: xs = [])) = true := by simp
        rw [dn] at te
        refine (while_step te ?_).trans e2
        show clean (o.length + 2) [] _ = _
        rw [e]
        show SR.next _ (trunc _ _ _) = _
        rw [under_take st2_len.symm] <;> rfl
theorem r_names {i iDraw m : Nat} (hd : Has T iDraw ⟨2, 5, bDraw⟩) (hi : Has T i ⟨2, 4, bNames iDraw⟩) (hh : IsHand h) (hn : o[n]? = some h) (hm : 0 < m) (hm2 : m ≤ 64) (hw : 70 < wf) :
    ∃ (p : List Nat) (h' : Ob), Names m p ∧ IsHand h' ∧ run T wf (d + 2) i t [.loc n, .d (.int m)] o = .ok (.w (.d (rowD p))) (o.set n h') := by
  have hlt : n < o.length := (List.getElem?_eq_some_iff.mp hn).1
  let l0 : List Nat := (List.range (m - 1)).map fun k => k + 1
  obtain ⟨h', f', hh', pf, zf, lf, e⟩ := names_loop (T := T) (wf := wf) (d := d) (t := t) (o := o) (n := n) (m := some (.d (.int m))) hd hlt (m - 1) wf h l0 [0] (by simp [l0]) (by omega) hh (by simp [l0]; omega) (by simp)
  refine ⟨f', h', ⟨?_, zf⟩, hh', ?_⟩
  · refine pf.trans ?_
    have : List.range m = 0 :: l0 := by
      obtain ⟨k, rfl⟩ : ∃ k, m = k + 1 := ⟨m - 1, by omega⟩
      rw [List.range_succ_eq_map] <;> rfl
    rw [this]
    exact List.Perm.refl _
  · rw [run_has hi rfl]
    have r1 : rngOk (m : Int) = true := rng_small (by unfold line; omega)
    have r0 : rngOk (1 : Int) = true := by decide +kernel
    have e1 : ((m : Int) - 1).toNat = m - 1 := by omega
    have hll : m - 1 ≤ line := by unfold line; omega
    have cl : collR Bi.lst [.d (.int 1), .d (.int m)] o = .ok (flD (intL l0)) o := by
      have : rngsD 1 (m - 1) = intL l0 := by
        unfold rngsD intL
        rw [List.map_map]
        apply List.map_congr_left
        intro k _
        show D.int (1 + (k : Int)) = D.int ((k + 1 : Nat) : Int)
        exact congrArg D.int (by omega)
      rw [collR_two r0 r1 (by rw [e1]; exact hll), e1, this]
    have a1 : allocR (flD (intL l0)) o = .ok (.w (.loc o.length)) (o ++ [.lst ((intL l0).map .d)]) := rfl
    have a2 : bnd (lstR [.d (.int 0)] (o ++ [.lst ((intL l0).map .d)])) allocR = .ok (.w (.loc (o.length + 1))) (st2 o n h l0 [0]) := by
      unfold st2
      rw [set_id hn]
      simp [lstR, allocR, intL, line]
    unfold bNames
    simp only [List.map_cons, List.map_nil, List.replicate, List.cons_append, List.nil_append, Nat.reduceSub, List.append_eq]
    rw [evB_cons]
    simp only [evS_par, evA_cons, evA_nil, ev_alloc, ev_coll, ev_lst, ev_c, ev_var, List.getElem?_cons_succ, List.getElem?_cons_zero, asW_w, bnd_ok, cl, a1, a2, bndS_ok, bindTs, bindT, thn_next, List.set_cons_succ, List.set_cons_zero]
    rw [evB_cons, evS_while, st2_len]
    have e' := e
    unfold namesBody at e'
    rw [e', thn_next, evB_cons]
    have tp : opDs (biD Bi.tup) [.loc (o.length + 1)] (st2 o n h' [] f') = .ok (.w (.d (rowD f'))) (st2 o n h' [] f') := tup_loc st2_f
    simp only [evS_ret, ev_bi, evA_cons, evA_nil, ev_var, List.getElem?_cons_succ, List.getElem?_cons_zero, asW_w, bnd_ok, tp, bndS_ok, thn_ret, retR_d]
    have tk : (st2 o n h' [] f').take o.length = o.set n h' := by
      unfold st2
      rw [← (List.length_set : (o.set n h').length = o.length)]
      exact List.take_left
    rw [tk]
end
end Mi.N
end
section
set_option linter.all false
set_option Elab.async false
set_option maxHeartbeats 1000000
set_option autoImplicit false
namespace Mi.N
open PySem (Str Operator CmpOp)
/-! ### rows laid in the store -/
def rowO (r : List Nat) : Ob := .lst ((intL r).map .d)
def locs (L m : Nat) : List W := (List.range m).map fun i => .loc (L + i)
def Z (o : List Ob) (M : List (List Nat)) : List Ob := o ++ (M.map rowO ++ [.lst (locs o.length M.length)])
section
variable {o : List Ob} {M : List (List Nat)} {m i j v : Nat}
theorem z_len : (Z o M).length = o.length + M.length + 1 := by simp [Z]; omega
theorem z_row (h : i < M.length) : (Z o M)[o.length + i]? = some (rowO (rowAt M i)) := by
  unfold Z
  rw [List.getElem?_append_right (by omega), Nat.add_sub_cancel_left, List.getElem?_append_left (by simpa using h), List.getElem?_map, List.getElem?_eq_getElem h]
  show some (rowO M[i]) = _
  rw [rowAt_eq, List.getD_eq_getElem?_getD, List.getElem?_eq_getElem h] <;> rfl
theorem z_locs : (Z o M)[o.length + M.length]? = some (.lst (locs o.length M.length)) := by
  unfold Z
  rw [List.getElem?_append_right (by omega), Nat.add_sub_cancel_left, List.getElem?_append_right (by simp)]
  simp
theorem z_at (h : i < M.length) : idxW (Z o M) (.loc (o.length + M.length)) (.int (i : Nat)) = some (.loc (o.length + i)) := by
  rw [idx_loc z_locs]
  unfold locs
  rw [atI_nat (by simpa using h)]
  simp
theorem z_set (h : i < M.length) (hj : j < (rowAt M i).length) : setiW (Z o M) (.loc (o.length + i)) (.int (j : Nat)) (.d (.int (v : Nat))) = some (Z o (M.set i ((rowAt M i).set j v))) := by
  rw [seti_loc (j := j) (z_row h) (by rw [List.length_map, intL_len]; exact ixN_nat hj)]
  unfold Z
  have e : ((intL (rowAt M i)).map W.d).set j (.d (.int (v : Nat))) = (intL ((rowAt M i).set j v)).map W.d := by
    unfold intL
    rw [List.map_set, List.map_set]
  rw [e, List.set_append_right _ _ (by omega), Nat.add_sub_cancel_left, List.set_append_left _ _ (by simpa using h), List.length_set, List.map_set]
  rfl
end
/-- a comprehension whose turns lay something in the store -/
theorem compG_st {step : Item → List Ob → R (List W)} {f : Itr} {xs : List Item} (w : Nat → W) (ω : Nat → List Ob) (hs : Src f xs) : ∀ (fuel i : Nat) (acc : List W),
    (∀ j x, i ≤ j → xs[j]? = some x → step x (ω j) = .ok [w j] (ω (j + 1))) → i ≤ xs.length → acc.length + (xs.length - i) ≤ line → xs.length - i < fuel → compG step f fuel i acc (ω i) = .ok (acc ++ (List.range' i (xs.length - i)).map w) (ω xs.length)
  | 0, i, acc, h, hi, hl, hf => absurd hf (Nat.not_lt_zero _)
  | fuel + 1, i, acc, h, hi, hl, hf => by
    unfold compG
    rw [hs (ω i) i]
    cases q : xs[i]? with
    | none =>
      have e : i = xs.length := Nat.le_antisymm hi (List.getElem?_eq_none_iff.mp q)
      rw [Nat.sub_eq_zero_of_le (List.getElem?_eq_none_iff.mp q), e]
      simp
    | some x =>
      obtain ⟨hi2, e⟩ := List.getElem?_eq_some_iff.mp q
      have hd : xs.length - i = (xs.length - (i + 1)) + 1 := by omega
      dsimp only
      rw [h i x (Nat.le_refl i) q]
      dsimp only
      rw [if_pos (by simp only [List.length_cons, List.length_nil]; omega), compG_st w ω hs fuel (i + 1) (acc ++ [w i]) (fun j z hj hz => h j z (by omega) hz) hi2 (by simp only [List.length_append, List.length_cons, List.length_nil]; omega) (by omega), hd, List.range'_succ, List.map_cons, List.append_assoc]
      rfl
/-- over what stands in this store -/
theorem compG_at {step : Item → List Ob → R (List W)} {f : Itr} {xs : List Item} {o : List Ob} (hs : ∀ i, f o i = some xs[i]?) (g : Nat → D) : ∀ (fuel i : Nat) (acc : List W),
    (∀ j x, i ≤ j → xs[j]? = some x → step x o = .ok [.d (g j)] o) → i ≤ xs.length → acc.length + (xs.length - i) ≤ line → xs.length - i < fuel → compG step f fuel i acc o = .ok (acc ++ (List.range' i (xs.length - i)).map fun j => .d (g j)) o
  | 0, i, acc, h, hi, hl, hf => absurd hf (Nat.not_lt_zero _)
  | fuel + 1, i, acc, h, hi, hl, hf => by
    unfold compG
    rw [hs i]
    cases q : xs[i]? with
    | none =>
      have e : i = xs.length := Nat.le_antisymm hi (List.getElem?_eq_none_iff.mp q)
      rw [Nat.sub_eq_zero_of_le (List.getElem?_eq_none_iff.mp q), e]
      simp
    | some x =>
      obtain ⟨hi2, e⟩ := List.getElem?_eq_some_iff.mp q
      have hd : xs.length - i = (xs.length - (i + 1)) + 1 := by omega
      dsimp only
      rw [h i x (Nat.le_refl i) q]
      dsimp only
      rw [if_pos (by simp only [List.length_cons, List.length_nil]; omega), compG_at hs g fuel (i + 1) (acc ++ [W.d (g i)]) (fun j z hj hz => h j z (by omega) hz) hi2 (by simp only [List.length_append, List.length_cons, List.length_nil]; omega) (by omega), hd, List.range'_succ, List.map_cons, List.append_assoc]
      rfl
theorem ev_compDef {cx : Cx} {own : List Nat} {t : T} {it : I} {test elt : E} {σ : Sg} {o : List Ob} : evE cx (.comp own t it test elt) σ o = bnd (evI cx it σ o) fun f o1 =>
      bnd (compG (fun x o => match bindT t x (killAll σ own) with
            | some σ1 => bnd (asT (evE cx test σ1 o)) fun k o2 => if k then bnd (asW (evE cx elt σ1 o2)) fun w o3 => .ok [w] (keep o.length w o3) else .ok [] (o2.take o.length)
            | none => .bad) f cx.wf 0 [] o1) fun ws o2 => .ok (.fl ws) o2 := Eq.trans rfl rfl
theorem two63 : (2 : Int) ^ 63 = 9223372036854775808 := by decide +kernel
theorem mult_lst {xs : List D} {k : Int} (p1 : decide (-(2 ^ 63) ≤ k) = true) (p2 : decide (k < 2 ^ 63) = true) (p3 : decide (xs.length * k.toNat ≤ line) = true) : binD .Mult (.lst xs) (.int k) = some (flD (List.replicate k.toNat xs).flatten) := by
  show (if decide (-(2 ^ 63) ≤ k) && decide (k < 2 ^ 63) && decide (xs.length * k.toNat ≤ line) then some (flD (List.replicate k.toNat xs).flatten) else none) = _
  rw [p1, p2, p3] <;> rfl
theorem mult_tup {xs : List D} {k : Int} (p1 : decide (-(2 ^ 63) ≤ k) = true) (p2 : decide (k < 2 ^ 63) = true) (p3 : decide (xs.length * k.toNat ≤ line) = true) : binD .Mult (.tup xs) (.int k) = some (.w (.d (.tup (List.replicate k.toNat xs).flatten))) := by
  show (if decide (-(2 ^ 63) ≤ k) && decide (k < 2 ^ 63) && decide (xs.length * k.toNat ≤ line) then some (Val.w (.d (.tup (List.replicate k.toNat xs).flatten))) else none) = _
  rw [p1, p2, p3] <;> rfl
theorem flat_rep (a : D) : ∀ m : Nat, (List.replicate m [a]).flatten = List.replicate m a
  | 0 => rfl
  | k + 1 => by rw [List.replicate_succ, List.replicate_succ, List.flatten_cons, flat_rep a k] <;> rfl
theorem intL_rep (m : Nat) : List.replicate m (D.int 0) = intL (List.replicate m 0) := by
  unfold intL
  rw [List.map_replicate] <;> rfl
def zeros (m : Nat) : List (List Nat) := List.replicate m (List.replicate m 0)
section
variable {cx : Cx} {o : List Ob} {m : Nat}
/-- [[0] * many for one in range(many)], laid -/
theorem rows_laid {own : List Nat} {i : Nat} {as : A} {em : E} {σ : Sg} (ha : evA cx as σ o = .ok [.d (.int m)] o) (hm : m ≤ 64) (hw : 70 < cx.wf)
    (he : ∀ (x : Option W) (o' : List Ob), asW (evE cx em ((killAll σ own).set i x) o') = .ok (.d (.int m)) o') :
    evE cx (.alloc (.comp own (.n i) (.range as) (.c (.bl true)) (.alloc (.bin .Mult (.lst (.cons (.c (.int 0)) .nil)) em)))) σ o = .ok (.w (.loc (o.length + m))) (Z o (zeros m)) := by
  rw [ev_alloc, ev_compDef, evI_rng ha (by unfold line; omega), bnd_ok]
  let ω : Nat → List Ob := fun j => o ++ (List.replicate j (List.replicate m 0)).map rowO
  have hlen : ((List.range m).map fun i => one (.int (0 + (i : Nat)))).length = m := by rw [List.length_map, List.length_range]
  have key := compG_st (step := fun x o => match bindT (.n i) x (killAll σ own) with
            | some σ1 => bnd (asT (evE cx (.c (.bl true)) σ1 o)) fun k o2 => if k then bnd (asW (evE cx (.alloc (.bin .Mult (.lst (.cons (.c (.int 0)) .nil)) em)) σ1 o2)) fun w o3 => .ok [w] (keep o.length w o3) else .ok [] (o2.take o.length)
            | none => .bad) (fun j => .loc (o.length + j)) ω (src_rng 0 m) cx.wf 0 [] (fun j x _ hx => ?_) (Nat.zero_le _) (by rw [hlen]; simp [line]; omega) (by rw [hlen]; omega)
  · rw [hlen, Nat.sub_zero, ← List.range_eq_range'] at key
    have e0 : ω 0 = o := by simp [ω]
    rw [e0] at key
    rw [key, bnd_ok, bnd_ok]
    show R.ok (Val.w (.loc (ω m).length)) (ω m ++ [.lst ([] ++ (List.range m).map fun j => .loc (o.length + j))]) = _
    have e1 : (ω m).length = o.length + m := by simp [ω]
    have e2 : ω m ++ [Ob.lst ([] ++ (List.range m).map fun j => W.loc (o.length + j))] = Z o (zeros m) := by
      unfold Z zeros locs
      simp only [ω, List.length_replicate, List.append_assoc, List.nil_append]
    rw [e1, e2]
  · rw [List.getElem?_map] at hx
    cases q : (List.range m)[j]? with
    | none => rw [q] at hx; cases hx
    | some y =>
      rw [q] at hx
      cases hx
      have h0 : asW (lstR [.d (.int 0)] (ω j)) = .ok (.d (.lst [.int 0])) (ω j) := by
        have : lstR [W.d (.int 0)] (ω j) = .ok (.fl ([D.int 0].map .d)) (ω j) := by simp [lstR, line]
        rw [this, asW_fl]
      have h1 : opD2 (binD .Mult) (.d (.lst [.int 0])) (.d (.int m)) (ω j) = .ok (flD (intL (List.replicate m 0))) (ω j) := by
        have p1 : decide (-(2 ^ 63) ≤ (m : Int)) = true := decide_eq_true (by rw [two63]; omega)
        have p2 : decide ((m : Int) < 2 ^ 63) = true := decide_eq_true (by rw [two63]; omega)
        have p3 : decide ([D.int 0].length * (m : Int).toNat ≤ line) = true := decide_eq_true (by unfold line; simp; omega)
        have e := mult_lst (xs := [.int 0]) p1 p2 p3
        show okO (binD .Mult (.lst [.int 0]) (.int (m : Int))) (ω j) = _
        rw [e, Int.toNat_natCast, flat_rep, intL_rep] <;> rfl
      have hb : bindT (.n i) (one (.int (0 + (y : Nat)))) (killAll σ own) = some ((killAll σ own).set i (some (.d (.int (0 + (y : Nat)))))) := rfl
      simp only [hb, ev_c, asT_bl, bnd_ok, if_true, ev_alloc, ev_bin, ev_lst, evA_cons, evA_nil, asW_w, h0, he, h1]
      have e3 : allocR (flD (intL (List.replicate m 0))) (ω j) = .ok (.w (.loc (ω j).length)) (ω j ++ [rowO (List.replicate m 0)]) := rfl
      have e4 : (ω j).length = o.length + j := by simp [ω]
      have e5 : ω j ++ [rowO (List.replicate m 0)] = ω (j + 1) := by
        simp only [ω]
        rw [List.replicate_succ', List.map_append, List.append_assoc] <;> rfl
      rw [e3, asW_w, bnd_ok, e5, e4]
      rfl
/-- tuple([tuple(row) for row in found]) -/
theorem rows_told {own : List Nat} {i : Nat} {e elt : E} {σ : Sg} {M : List (List Nat)} (he : asW (evE cx e σ (Z o M)) = .ok (.loc (o.length + M.length)) (Z o M)) (hm : M.length ≤ 64) (hw : 70 < cx.wf)
    (hv : ∀ k < M.length, asW (evE cx elt ((killAll σ own).set i (some (.loc (o.length + k)))) (Z o M)) = .ok (.d (rowD (rowAt M k))) (Z o M)) :
    evE cx (.bi Bi.tup (.cons (.comp own (.n i) (.of e) (.c (.bl true)) elt) .nil)) σ (Z o M) = .ok (.w (.d (tabD M))) (Z o M) := by
  have hk : kindW (Z o M) (.loc (o.length + M.length)) = some true := kind_loc z_locs
  have hi : evI cx (.of e) σ (Z o M) = .ok (oneI (.loc (o.length + M.length))) (Z o M) := by
    have e2 : evI cx (.of e) σ (Z o M) = bnd (asW (evE cx e σ (Z o M))) fun w o1 => ofR w o1 := Eq.trans rfl rfl
    rw [e2, he, bnd_ok]
    unfold ofR
    rw [hk] <;> rfl
  have hsrc : ∀ j, oneI (.loc (o.length + M.length)) (Z o M) j = some (((List.range M.length).map fun k => Item.one (.loc (o.length + k)))[j]?) := fun j => by
    show (match (match (Z o M)[o.length + M.length]? with | some (.lst ws) => some ws[j]? | _ => none : Option (Option W)) with | some (some x) => some (some (Item.one x)) | some none => some none | none => none) = _
    rw [z_locs]
    show (match (some (locs o.length M.length)[j]? : Option (Option W)) with | some (some x) => some (some (Item.one x)) | some none => some none | none => none) = _
    unfold locs
    rw [List.getElem?_map, List.getElem?_map]
    cases (List.range M.length)[j]? <;> rfl
  have hlen : ((List.range M.length).map fun k => Item.one (.loc (o.length + k))).length = M.length := by rw [List.length_map, List.length_range]
  have key := compG_at (step := fun x o => match bindT (.n i) x (killAll σ own) with
            | some σ1 => bnd (asT (evE cx (.c (.bl true)) σ1 o)) fun k o2 => if k then bnd (asW (evE cx elt σ1 o2)) fun w o3 => .ok [w] (keep o.length w o3) else .ok [] (o2.take o.length)
            | none => .bad) hsrc (fun j => rowD (rowAt M j)) cx.wf 0 [] (fun j x _ hx => ?_) (Nat.zero_le _) (by rw [hlen]; simp [line]; omega) (by rw [hlen]; omega)
  · rw [hlen, Nat.sub_zero, ← List.range_eq_range'] at key
    have ec : evE cx (.comp own (.n i) (.of e) (.c (.bl true)) elt) σ (Z o M) = .ok (flD (tabL M)) (Z o M) := by
      rw [ev_compDef, hi, bnd_ok, key, bnd_ok]
      have : (List.range M.length).map (fun j => W.d (rowD (rowAt M j))) = (tabL M).map .d := by
        unfold tabL
        rw [List.map_map]
        apply List.ext_getElem (by simp)
        intro k h1 h2
        have hk : k < M.length := by simpa using h2
        simp [rowAt_eq, hk]
      rw [List.nil_append, this] <;> rfl
    rw [ev_bi, evA_cons, ec, asW_flD, bnd_ok, evA_nil, bnd_ok, bnd_ok, tup_flD] <;> rfl
  · rw [List.getElem?_map] at hx
    cases q : (List.range M.length)[j]? with
    | none => rw [q] at hx; cases hx
    | some y =>
      have hj : j < M.length := by
        have := (List.getElem?_eq_some_iff.mp q).1
        rwa [List.length_range] at this
      rw [List.getElem?_range hj] at q
      cases q
      rw [List.getElem?_range hj] at hx
      cases hx
      have hb : bindT (.n i) (.one (.loc (o.length + j))) (killAll σ own) = some ((killAll σ own).set i (some (.loc (o.length + j)))) := rfl
      simp only [hb, ev_c, asT_bl, asW_w, bnd_ok, if_true, hv j hj, keep, takeL]
theorem tup_row {M : List (List Nat)} {k : Nat} (hk : k < M.length) : opDs (biD Bi.tup) [.loc (o.length + k)] (Z o M) = .ok (.w (.d (rowD (rowAt M k)))) (Z o M) := tup_loc (z_row hk)
end
end Mi.N
end
section
set_option linter.all false
set_option Elab.async false
set_option maxHeartbeats 1000000
set_option autoImplicit false
namespace Mi.N
open PySem (Str Operator CmpOp)
/-! ### a table under other names -/
def ent (M : List (List Nat)) (x y : Nat) : Nat := nth (rowAt M x) y
def upd (p : List Nat) (R M : List (List Nat)) (a b : Nat) : List (List Nat) := M.set (nth p a) ((rowAt M (nth p a)).set (nth p b) (nth p (nth (rowAt R a) b)))
def inn (p : List Nat) (R M : List (List Nat)) (a : Nat) : Nat → List (List Nat)
  | 0 => M
  | b + 1 => upd p R (inn p R M a b) a b
def out (p : List Nat) (R : List (List Nat)) (m : Nat) : Nat → List (List Nat)
  | 0 => zeros m
  | a + 1 => inn p R (out p R m a) a m
def calledR (p : List Nat) (R : List (List Nat)) (m : Nat) : List (List Nat) := out p R m m
structure Dim (m : Nat) (M : List (List Nat)) : Prop where
  len : M.length = m
  row : ∀ i < m, (rowAt M i).length = m
theorem rowAt_set {M : List (List Nat)} {i j : Nat} {r : List Nat} (h : i < M.length) : rowAt (M.set i r) j = if i = j then r else rowAt M j := by
  rw [rowAt_eq, rowAt_eq, List.getD_eq_getElem?_getD, List.getD_eq_getElem?_getD, List.getElem?_set]
  by_cases q : i = j
  · subst q
    rw [if_pos rfl, if_pos rfl, if_pos h] <;> rfl
  · rw [if_neg q, if_neg q]
theorem nth_set {r : List Nat} {i j v : Nat} (h : i < r.length) : nth (r.set i v) j = if i = j then v else nth r j := by
  rw [nth_eq, nth_eq, List.getD_eq_getElem?_getD, List.getD_eq_getElem?_getD, List.getElem?_set]
  by_cases q : i = j
  · subst q
    rw [if_pos rfl, if_pos rfl, if_pos h] <;> rfl
  · rw [if_neg q, if_neg q]
theorem dim_zeros (m : Nat) : Dim m (zeros m) := ⟨by simp [zeros], fun i hi => by
  rw [rowAt_eq, List.getD_eq_getElem?_getD]
  unfold zeros
  rw [List.getElem?_replicate, if_pos hi]
  simp⟩
section
variable {m : Nat} {p : List Nat} {R M : List (List Nat)}
theorem Names.lt (N : Names m p) {a : Nat} (h : a < m) : nth p a < m := by
  rw [nth_eq, List.getD_eq_getElem?_getD, List.getElem?_eq_getElem (by rw [N.len]; exact h)]
  exact List.mem_range.mp (N.perm.mem_iff.mp (List.getElem_mem _))
theorem Names.inj (N : Names m p) {a b : Nat} (ha : a < m) (hb : b < m) (e : nth p a = nth p b) : a = b := by
  have nd : p.Nodup := N.perm.nodup_iff.mpr List.nodup_range
  have ha' : a < p.length := by rw [N.len]; exact ha
  have hb' : b < p.length := by rw [N.len]; exact hb
  rw [nth_eq, nth_eq, List.getD_eq_getElem?_getD, List.getD_eq_getElem?_getD, List.getElem?_eq_getElem ha', List.getElem?_eq_getElem hb'] at e
  exact (List.getElem_inj nd).mp e
theorem Names.sur (N : Names m p) {i : Nat} (h : i < m) : ∃ a, a < m ∧ nth p a = i := by
  obtain ⟨a, ha, e⟩ := List.mem_iff_getElem.mp (N.perm.mem_iff.mpr (List.mem_range.mpr h))
  refine ⟨a, by rw [← N.len]; exact ha, ?_⟩
  rw [nth_eq, List.getD_eq_getElem?_getD, List.getElem?_eq_getElem ha]
  exact e
theorem dim_upd (N : Names m p) (D : Dim m M) {a b : Nat} (ha : a < m) : Dim m (upd p R M a b) := by
  have hp := N.lt ha
  refine ⟨by simp [upd, D.len], fun i hi => ?_⟩
  unfold upd
  rw [rowAt_set (by rw [D.len]; exact hp)]
  split
  · rw [List.length_set, D.row _ hp]
  · exact D.row i hi
theorem ent_upd (N : Names m p) (D : Dim m M) {a b x y : Nat} (ha : a < m) (hb : b < m) (hx : x < m) (hy : y < m) :
    ent (upd p R M a b) (nth p x) (nth p y) = if x = a ∧ y = b then nth p (nth (rowAt R a) b) else ent M (nth p x) (nth p y) := by
  have hpa := N.lt ha
  have hpb := N.lt hb
  unfold ent upd
  rw [rowAt_set (by rw [D.len]; exact hpa)]
  by_cases q : x = a
  · subst q
    rw [if_pos rfl, nth_set (by rw [D.row _ hpa]; exact hpb)]
    by_cases q2 : y = b
    · subst q2
      rw [if_pos rfl, if_pos ⟨rfl, rfl⟩]
    · rw [if_neg (fun e => q2 (N.inj hb hy e).symm), if_neg (fun z => q2 z.2)]
  · rw [if_neg (fun e => q (N.inj ha hx e).symm), if_neg (fun z => q z.1)]
theorem dim_inn (N : Names m p) (D : Dim m M) {a : Nat} (ha : a < m) : ∀ b, Dim m (inn p R M a b)
  | 0 => D
  | b + 1 => dim_upd N (dim_inn N D ha b) ha
theorem ent_inn (N : Names m p) (D : Dim m M) {a x y : Nat} (ha : a < m) (hx : x < m) (hy : y < m) : ∀ b, b ≤ m →
    ent (inn p R M a b) (nth p x) (nth p y) = if x = a ∧ y < b then nth p (nth (rowAt R a) y) else ent M (nth p x) (nth p y)
  | 0, _ => by rw [if_neg (by omega)] <;> rfl
  | b + 1, hb => by
    show ent (upd p R (inn p R M a b) a b) _ _ = _
    rw [ent_upd N (dim_inn N D ha b) ha (by omega) hx hy, ent_inn N D ha hx hy b (by omega)]
    by_cases q : x = a ∧ y = b
    · obtain ⟨rfl, rfl⟩ := q
      rw [if_pos ⟨rfl, rfl⟩, if_pos ⟨rfl, by omega⟩]
    · rw [if_neg q]
      by_cases q2 : x = a ∧ y < b
      · rw [if_pos q2, if_pos ⟨q2.1, by omega⟩]
      · rw [if_neg q2, if_neg (by omega)]
theorem dim_out (N : Names m p) : ∀ a, a ≤ m → Dim m (out p R m a)
  | 0, _ => dim_zeros m
  | a + 1, h => dim_inn N (dim_out N a (by omega)) (by omega) m
theorem ent_out (N : Names m p) {x y : Nat} (hx : x < m) (hy : y < m) : ∀ a, a ≤ m → x < a → ent (out p R m a) (nth p x) (nth p y) = nth p (nth (rowAt R x) y)
  | 0, _, h => absurd h (Nat.not_lt_zero _)
  | a + 1, ha, h => by
    show ent (inn p R (out p R m a) a m) _ _ = _
    rw [ent_inn N (dim_out N a (by omega)) (by omega) hx hy m (Nat.le_refl m)]
    by_cases q : x = a
    · subst q
      rw [if_pos ⟨rfl, hy⟩]
    · rw [if_neg (fun z => q z.1), ent_out N hx hy a (by omega) (by omega)]
theorem ent_called (N : Names m p) {x y : Nat} (hx : x < m) (hy : y < m) : ent (calledR p R m) (nth p x) (nth p y) = nth p (nth (rowAt R x) y) := ent_out N hx hy m (Nat.le_refl m) hx
/-! ### .. is a group still -/
theorem mem_nth {r : List Nat} {k : Nat} (h : k ∈ r) : ∃ y, y < r.length ∧ nth r y = k := by
  obtain ⟨y, hy, e⟩ := List.mem_iff_getElem.mp h
  refine ⟨y, hy, ?_⟩
  rw [nth_eq, List.getD_eq_getElem?_getD, List.getElem?_eq_getElem hy]
  exact e
theorem nth_mem {r : List Nat} {y : Nat} (h : y < r.length) : nth r y ∈ r := by
  rw [nth_eq, List.getD_eq_getElem?_getD, List.getElem?_eq_getElem h]
  exact List.getElem_mem _
theorem mem_rowAt {r : List Nat} (h : r ∈ M) : ∃ i, i < M.length ∧ rowAt M i = r := by
  obtain ⟨y, hy, e⟩ := List.mem_iff_getElem.mp h
  refine ⟨y, hy, ?_⟩
  rw [rowAt_eq, List.getD_eq_getElem?_getD, List.getElem?_eq_getElem hy]
  exact e
theorem sq_called (N : Names m p) (S : Sq m R) : Sq m (calledR p R m) := by
  have D : Dim m (calledR p R m) := dim_out N m (Nat.le_refl m)
  refine ⟨D.len, fun r hr => ?_⟩
  obtain ⟨i, hi, rfl⟩ := mem_rowAt hr
  rw [D.len] at hi
  refine ⟨D.row i hi, fun k hk => ?_⟩
  obtain ⟨y, hy, rfl⟩ := mem_nth hk
  rw [D.row i hi] at hy
  obtain ⟨a, ha, rfl⟩ := N.sur hi
  obtain ⟨b, hb, rfl⟩ := N.sur hy
  have := ent_called (R := R) N ha hb
  unfold ent at this
  rw [this]
  exact N.lt (nth_lt S ha hb)
theorem faultN_none (S : Sq m R) (hm : 1 ≤ m) : faultN m R = none ↔ (∀ i < m, ent R 0 i = i ∧ ent R i 0 = i) ∧ (∀ i < m, ∃ j, j < m ∧ ent R i j = 0) ∧ ∀ a b c, a < m → b < m → c < m → ent R (ent R a b) c = ent R a (ent R b c) := by
  unfold faultN
  rw [one_is S hm, goes_is S]
  have h1 : oneB m R = true ↔ ∀ i < m, ent R 0 i = i ∧ ent R i 0 = i := by
    unfold oneB ent
    rw [List.all_eq_true]
    constructor
    · intro h i hi
      have := h i (List.mem_range.mpr hi)
      rwa [Bool.and_eq_true, decide_eq_true_eq, decide_eq_true_eq] at this
    · intro h i hi
      rw [Bool.and_eq_true, decide_eq_true_eq, decide_eq_true_eq]
      exact h i (List.mem_range.mp hi)
  have h2 : backsOk R = true ↔ ∀ i < m, ∃ j, j < m ∧ ent R i j = 0 := by
    unfold backsOk ent
    rw [List.all_eq_true]
    constructor
    · intro h i hi
      have := of_decide_eq_true (h _ (S.get hi))
      obtain ⟨y, hy, e⟩ := mem_nth this
      exact ⟨y, by rw [← S.getl hi]; exact hy, e⟩
    · intro h r hr
      obtain ⟨i, hi, rfl⟩ := mem_rowAt hr
      rw [S.len] at hi
      obtain ⟨j, hj, e⟩ := h i hi
      refine decide_eq_true ?_
      rw [← e]
      exact nth_mem (by rw [S.getl hi]; exact hj)
  have h3 : ((List.range m).all fun a => (List.range m).all fun b => threeB m R a b) = true ↔ ∀ a b c, a < m → b < m → c < m → ent R (ent R a b) c = ent R a (ent R b c) := by
    unfold threeB ent
    simp only [List.all_eq_true, List.mem_range, decide_eq_true_eq]
    exact ⟨fun h a b c ha hb hc => h a ha b hb c hc, fun h a ha b hb c hc => h a b c ha hb hc⟩
  rw [← h1, ← h2, ← h3]
  cases oneB m R <;> cases backsOk R <;> cases ((List.range m).all fun a => (List.range m).all fun b => threeB m R a b) <;> simp
theorem Good.called (g : Good m R) (N : Names m p) : Good m (calledR p R m) := by
  have S := sq_called N g.sq
  obtain ⟨h1, h2, h3⟩ := (faultN_none g.sq g.lo).mp g.ok
  have p0 : nth p 0 = 0 := N.zero
  have hlo := g.lo
  have e : ∀ x y, x < m → y < m → ent (calledR p R m) (nth p x) (nth p y) = nth p (ent R x y) := fun x y hx hy => ent_called N hx hy
  have cl : ∀ x y, x < m → y < m → ent R x y < m := fun x y hx hy => nth_lt g.sq hx hy
  refine ⟨g.lo, g.hi, S, (faultN_none S g.lo).mpr ⟨fun i hi => ?_, fun i hi => ?_, fun a b c ha hb hc => ?_⟩⟩
  · obtain ⟨x, hx, rfl⟩ := N.sur hi
    have q1 := e 0 x (by omega) hx
    have q2 := e x 0 hx (by omega)
    rw [p0] at q1 q2
    rw [q1, q2, (h1 x hx).1, (h1 x hx).2]
    exact ⟨rfl, rfl⟩
  · obtain ⟨x, hx, rfl⟩ := N.sur hi
    obtain ⟨y, hy, q⟩ := h2 x hx
    exact ⟨nth p y, N.lt hy, by rw [e x y hx hy, q, p0]⟩
  · obtain ⟨x, hx, rfl⟩ := N.sur ha
    obtain ⟨y, hy, rfl⟩ := N.sur hb
    obtain ⟨z, hz, rfl⟩ := N.sur hc
    rw [e x y hx hy, e y z hy hz, e _ z (cl x y hx hy) hz, e x _ hx (cl y z hy hz), h3 x y z hx hy hz]
end
end Mi.N
end
section
set_option linter.all false
set_option Elab.async false
set_option maxHeartbeats 1000000
set_option autoImplicit false
namespace Mi.N
open PySem (Str Operator CmpOp)
def calledIn : B := (.cons (.set 4 (.idx (.var 3) (.idx (.var 1) (.var 5))))
    (.cons (.seti (.var 4) (.idx (.var 1) (.var 6)) (.idx (.var 1) (.idx (.idx (.var 0) (.var 5)) (.var 6))))
    .nil))
def bCalled : B :=
    (.cons (.set 2 (.bi Bi.len (.cons (.var 0) .nil)))
    (.cons (.set 3 (.alloc (.comp [4] (.n 4) (.range (.cons (.var 2) .nil)) (.c (.bl true)) (.alloc (.bin .Mult (.lst (.cons (.c (.int 0)) .nil)) (.var 2))))))
    (.cons (.for (.n 5) (.range (.cons (.var 2) .nil)) [5, 6]
    (.cons (.for (.n 6) (.range (.cons (.var 2) .nil)) [6] calledIn)
    .nil))
    (.cons (.ret (.bi Bi.tup (.cons (.comp [4] (.n 4) (.of (.var 3)) (.c (.bl true)) (.bi Bi.tup (.cons (.var 4) .nil))) .nil)))
    .nil))))
section
variable {T : Tab} {wf d : Nat} {t : Option Thk} {cur : Option Ex} {o : List Ob} {m : Nat} {R : List (List Nat)} {p : List Nat} {cal : Cal}
/-- one cell is put -/
theorem put_cell (N : Names m p) {M : List (List Nat)} (D : Dim m M) {a b : Nat} (ha : a < m) (hb : b < m) :
    idxW (Z o M) (.loc (o.length + m)) (.int (nth p a : Nat)) = some (.loc (o.length + nth p a)) ∧
      setiW (Z o M) (.loc (o.length + nth p a)) (.int (nth p b : Nat)) (.d (.int (nth p (nth (rowAt R a) b) : Nat))) = some (Z o (upd p R M a b)) := by
  have h1 : nth p a < M.length := by rw [D.len]; exact N.lt ha
  refine ⟨?_, ?_⟩
  · have := z_at (o := o) (M := M) h1
    rw [D.len] at this
    exact this
  · exact z_set h1 (by rw [D.row _ (N.lt ha)]; exact N.lt hb)
theorem names_idx (N : Names m p) {a : Nat} (ha : a < m) (o : List Ob) : idxW o (.d (rowD p)) (.int (a : Nat)) = some (.d (.int (nth p a : Nat))) := idx_rowD (by rw [N.len]; exact ha)
theorem tab_idx (S : Sq m R) {a b : Nat} (ha : a < m) (hb : b < m) (o : List Ob) : idxW o (.d (tabD R)) (.int (a : Nat)) = some (.d (rowD (rowAt R a))) ∧ idxW o (.d (rowD (rowAt R a))) (.int (b : Nat)) = some (.d (.int (nth (rowAt R a) b : Nat))) :=
  ⟨idx_tabD S ha, idx_rowD (by rw [S.getl ha]; exact hb)⟩
theorem called_in (S : Sq m R) (N : Names m p) {M : List (List Nat)} (D : Dim m M) {a b : Nat} (ha : a < m) (hb : b < m) {v : Option W} :
    evB ⟨T, cal, wf, t, none⟩ calledIn [some (.d (tabD R)), some (.d (rowD p)), some (.d (.int m)), some (.loc (o.length + m)), v, some (.d (.int a)), some (.d (.int b))] (Z o M) =
      .next [some (.d (tabD R)), some (.d (rowD p)), some (.d (.int m)), some (.loc (o.length + m)), some (.loc (o.length + nth p a)), some (.d (.int a)), some (.d (.int b))] (Z o (upd p R M a b)) := by
  obtain ⟨e1, e2⟩ := put_cell (o := o) (R := R) N D ha hb
  have h := tab_idx S ha hb (Z o M)
  unfold calledIn
  simp only [evB_cons, evB_nil, evS_set, evS_seti, ev_idx, ev_var, List.getElem?_cons_succ, List.getElem?_cons_zero, asW_w, bnd_ok, bndS_ok, thn_next, List.set_cons_succ, List.set_cons_zero, idxR, view_d, names_idx N ha, names_idx N hb, names_idx N (nth_lt S ha hb), h.1, h.2, Option.map_some, okO_some, e1, e2, oS]
theorem called_row (S : Sq m R) (N : Names m p) {M : List (List Nat)} (D : Dim m M) (hm : 0 < m) (hm2 : m ≤ 64) (hw : 70 < wf) {a : Nat} (ha : a < m) {v : Option W} :
    evS ⟨T, cal, wf, t, none⟩ (.for (.n 6) (.range (.cons (.var 2) .nil)) [6] calledIn) [some (.d (tabD R)), some (.d (rowD p)), some (.d (.int m)), some (.loc (o.length + m)), v, some (.d (.int a)), none] (Z o M) =
      .next [some (.d (tabD R)), some (.d (rowD p)), some (.d (.int m)), some (.loc (o.length + m)), some (.loc (o.length + nth p a)), some (.d (.int a)), none] (Z o (inn p R M a m)) := by
  let τ : Nat → Sg := fun j => [some (.d (tabD R)), some (.d (rowD p)), some (.d (.int m)), some (.loc (o.length + m)), (match j with | 0 => v | _ + 1 => some (.loc (o.length + nth p a))), some (.d (.int a)), none]
  have lp := for_rng (cx := ⟨T, cal, wf, t, none⟩) (i := 6) (n := m) (as := (.cons (.var 2) .nil)) (kill := [6]) (b := calledIn) (o := o) τ (fun j => Z o (inn p R M a j))
    (by simp only [τ, evA_cons, evA_nil, ev_var, List.getElem?_cons_succ, List.getElem?_cons_zero, asW_w, bnd_ok]) (by unfold line; omega) (by show m < wf; omega) (fun b hb => by
      have e := fun v => called_in (T := T) (wf := wf) (t := t) (cal := cal) (o := o) S N (dim_inn (R := R) N D ha b) ha hb (v := v)
      simp only [τ, List.set_cons_succ, List.set_cons_zero]
      rw [e]
      show SR.next _ (trunc _ _ _) = _
      rw [under_take (by rw [z_len, z_len, (dim_inn (R := R) N D ha 0).len, (dim_upd (R := R) N (dim_inn (R := R) N D ha b) ha).len])]
      rfl)
  obtain ⟨k, rfl⟩ : ∃ k, m = k + 1 := ⟨m - 1, by omega⟩
  exact lp
theorem r_called {i : Nat} (h : Has T i ⟨2, 7, bCalled⟩) (S : Sq m R) (N : Names m p) (hm : 0 < m) (hm2 : m ≤ 64) (hw : 70 < wf) :
    run T wf (d + 1) i t [.d (tabD R), .d (rowD p)] o = .ok (.w (.d (tabD (calledR p R m)))) o := by
  rw [run_has h rfl]
  let τ : Nat → Sg := fun j => [some (.d (tabD R)), some (.d (rowD p)), some (.d (.int m)), some (.loc (o.length + m)), (match j with | 0 => none | a + 1 => some (.loc (o.length + nth p a))), none, none]
  have lp := for_rng (cx := ⟨T, run T wf d, wf, t, none⟩) (i := 5) (n := m) (as := (.cons (.var 2) .nil)) (kill := [5, 6]) (b := (.cons (.for (.n 6) (.range (.cons (.var 2) .nil)) [6] calledIn) .nil)) (o := o) τ (fun j => Z o (out p R m j))
    (by simp only [τ, evA_cons, evA_nil, ev_var, List.getElem?_cons_succ, List.getElem?_cons_zero, asW_w, bnd_ok]) (by unfold line; omega) (by show m < wf; omega) (fun a ha => by
      have e := fun v => called_row (T := T) (wf := wf) (t := t) (cal := run T wf d) (o := o) S N (dim_out (R := R) N a (by omega)) hm hm2 hw ha (v := v)
      simp only [τ, List.set_cons_succ, List.set_cons_zero]
      rw [evB_cons, e, thn_next, evB_nil]
      show SR.next _ (trunc _ _ _) = _
      rw [under_take (by rw [z_len, z_len, (dim_out (R := R) N 0 (by omega)).len, (dim_inn (R := R) N (dim_out (R := R) N a (by omega)) ha m).len])]
      rfl)
  have D : Dim m (calledR p R m) := dim_out N m (Nat.le_refl m)
  have al := fun (σ : Sg) (ha : evA ⟨T, run T wf d, wf, t, none⟩ (.cons (.var 2) .nil) σ o = .ok [.d (.int m)] o) => rows_laid (cx := ⟨T, run T wf d, wf, t, none⟩) (o := o) (own := [4]) (i := 4) (em := .var 2) ha hm2 hw
  unfold bCalled
  simp only [List.map_cons, List.map_nil, List.replicate, List.cons_append, List.nil_append, Nat.reduceSub, List.append_eq]
  rw [evB_cons]
  simp only [evS_set, ev_bi, evA_cons, evA_nil, ev_var, List.getElem?_cons_succ, List.getElem?_cons_zero, asW_w, bnd_ok, len_tab S, bndS_ok, thn_next, List.set_cons_succ, List.set_cons_zero]
  rw [evB_cons, evS_set, al _ (by simp only [evA_cons, evA_nil, ev_var, List.getElem?_cons_succ, List.getElem?_cons_zero, asW_w, bnd_ok]) (fun x o' => by simp only [killAll, List.set_cons_succ, List.set_cons_zero, ev_var, List.getElem?_cons_succ, List.getElem?_cons_zero, asW_w])]
  simp only [asW_w, bndS_ok, thn_next, List.set_cons_succ, List.set_cons_zero]
  obtain ⟨k, hk⟩ : ∃ k, m = k + 1 := ⟨m - 1, by omega⟩
  have lp2 : evS ⟨T, run T wf d, wf, t, none⟩ (.for (.n 5) (.range (.cons (.var 2) .nil)) [5, 6] (.cons (.for (.n 6) (.range (.cons (.var 2) .nil)) [6] calledIn) .nil)) [some (.d (tabD R)), some (.d (rowD p)), some (.d (.int m)), some (.loc (o.length + m)), none, none, none] (Z o (zeros m)) = .next (τ m) (Z o (calledR p R m)) := lp
  rw [evB_cons, lp2, thn_next, evB_cons]
  have tl := rows_told (cx := ⟨T, run T wf d, wf, t, none⟩) (o := o) (own := [4]) (i := 4) (e := .var 3) (elt := .bi Bi.tup (.cons (.var 4) .nil)) (σ := τ m) (M := calledR p R m)
    (by simp only [τ, ev_var, List.getElem?_cons_succ, List.getElem?_cons_zero, asW_w, D.len]) (by rw [D.len]; exact hm2) hw (fun k hk => by
      simp only [τ, killAll, List.set_cons_succ, List.set_cons_zero, ev_bi, evA_cons, evA_nil, ev_var, List.getElem?_cons_succ, List.getElem?_cons_zero, asW_w, bnd_ok, tup_row hk])
  rw [evS_ret, tl]
  simp only [bndS_ok, thn_ret, retR_d]
  unfold Z
  rw [List.take_left]
/-! ### the program's renamed_by -/
def renIn : B := (.cons (.seti (.idx (.var 2) (.idx (.var 1) (.var 4))) (.idx (.var 1) (.var 5)) (.idx (.var 1) (.idx (.idx (.attr (.var 0) 1) (.var 4)) (.var 5))))
    .nil)
def bRenBy : B :=
    (.cons (.set 2 (.alloc (.comp [3] (.n 3) (.range (.cons (.attr (.var 0) 2) .nil)) (.c (.bl true)) (.alloc (.bin .Mult (.lst (.cons (.c (.int 0)) .nil)) (.attr (.var 0) 2))))))
    (.cons (.for (.n 4) (.range (.cons (.attr (.var 0) 2) .nil)) [4, 5]
    (.cons (.for (.n 5) (.range (.cons (.attr (.var 0) 2) .nil)) [5] renIn)
    .nil))
    (.cons (.ret (.mk 0 (.cons (.bi Bi.tup (.cons (.comp [6] (.n 6) (.of (.var 2)) (.c (.bl true)) (.bi Bi.tup (.cons (.var 6) .nil))) .nil)) .nil)))
    .nil)))
theorem at1 : attrW o (.d (groupV m R)) 1 = some (.d (tabD R)) := rfl
theorem at2 : attrW o (.d (groupV m R)) 2 = some (.d (.int m)) := rfl
theorem at3 : attrW o (.d (groupV m R)) 3 = some (.d (rowD (R.map ix0))) := rfl
theorem ren_in (S : Sq m R) (N : Names m p) {M : List (List Nat)} (D : Dim m M) {a b : Nat} (ha : a < m) (hb : b < m) {v x : Option W} :
    evB ⟨T, cal, wf, t, none⟩ renIn [some (.d (groupV m R)), some (.d (rowD p)), some (.loc (o.length + m)), v, some (.d (.int a)), some (.d (.int b)), x] (Z o M) =
      .next [some (.d (groupV m R)), some (.d (rowD p)), some (.loc (o.length + m)), v, some (.d (.int a)), some (.d (.int b)), x] (Z o (upd p R M a b)) := by
  obtain ⟨e1, e2⟩ := put_cell (o := o) (R := R) N D ha hb
  have h := tab_idx S ha hb (Z o M)
  unfold renIn
  simp only [evB_cons, evB_nil, evS_seti, ev_idx, ev_attr, ev_var, List.getElem?_cons_succ, List.getElem?_cons_zero, asW_w, bnd_ok, bndS_ok, thn_next, at1, idxR, view_d, names_idx N ha, names_idx N hb, names_idx N (nth_lt S ha hb), h.1, h.2, Option.map_some, okO_some, e1, e2, oS]
theorem ren_row (S : Sq m R) (N : Names m p) {M : List (List Nat)} (D : Dim m M) (hm2 : m ≤ 64) (hw : 70 < wf) {a : Nat} (ha : a < m) {v x : Option W} :
    evS ⟨T, cal, wf, t, none⟩ (.for (.n 5) (.range (.cons (.attr (.var 0) 2) .nil)) [5] renIn) [some (.d (groupV m R)), some (.d (rowD p)), some (.loc (o.length + m)), v, some (.d (.int a)), none, x] (Z o M) =
      .next [some (.d (groupV m R)), some (.d (rowD p)), some (.loc (o.length + m)), v, some (.d (.int a)), none, x] (Z o (inn p R M a m)) := by
  let τ : Nat → Sg := fun j => [some (.d (groupV m R)), some (.d (rowD p)), some (.loc (o.length + m)), v, some (.d (.int a)), none, x]
  exact for_rng (cx := ⟨T, cal, wf, t, none⟩) (i := 5) (n := m) (as := (.cons (.attr (.var 0) 2) .nil)) (kill := [5]) (b := renIn) (o := o) τ (fun j => Z o (inn p R M a j))
    (by simp only [τ, evA_cons, evA_nil, ev_attr, ev_var, List.getElem?_cons_succ, List.getElem?_cons_zero, asW_w, bnd_ok, at2, Option.map_some, okO_some]) (by unfold line; omega) (by show m < wf; omega) (fun b hb => by
      have e := ren_in (T := T) (wf := wf) (t := t) (cal := cal) (o := o) S N (dim_inn (R := R) N D ha b) ha hb (v := v) (x := x)
      simp only [τ, List.set_cons_succ, List.set_cons_zero]
      rw [e]
      show SR.next _ (trunc _ _ _) = _
      rw [under_take (by rw [z_len, z_len, (dim_inn (R := R) N D ha 0).len, (dim_upd (R := R) N (dim_inn (R := R) N D ha b) ha).len])]
      rfl)
theorem r_renBy (G : Grp T) (h : Has T 6 ⟨2, 7, bRenBy⟩) (g : Good m R) (N : Names m p) (hw : 70 < wf) :
    run T wf (d + 4) 6 t [.d (groupV m R), .d (rowD p)] o = .ok (.w (.d (groupV m (calledR p R m)))) o := by
  rw [run_has h rfl]
  have S := g.sq
  have hm : 0 < m := g.lo
  have hm2 : m ≤ 64 := by have := g.hi; omega
  let τ : Nat → Sg := fun j => [some (.d (groupV m R)), some (.d (rowD p)), some (.loc (o.length + m)), none, none, none, none]
  have lp := for_rng (cx := ⟨T, run T wf (d + 3), wf, t, none⟩) (i := 4) (n := m) (as := (.cons (.attr (.var 0) 2) .nil)) (kill := [4, 5]) (b := (.cons (.for (.n 5) (.range (.cons (.attr (.var 0) 2) .nil)) [5] renIn) .nil)) (o := o) τ (fun j => Z o (out p R m j))
    (by simp only [τ, evA_cons, evA_nil, ev_attr, ev_var, List.getElem?_cons_succ, List.getElem?_cons_zero, asW_w, bnd_ok, at2, Option.map_some, okO_some]) (by unfold line; omega) (by show m < wf; omega) (fun a ha => by
      have e := ren_row (T := T) (wf := wf) (t := t) (cal := run T wf (d + 3)) (o := o) S N (dim_out (R := R) N a (by omega)) hm2 hw ha (v := none) (x := none)
      simp only [τ, List.set_cons_succ, List.set_cons_zero]
      rw [evB_cons, e, thn_next, evB_nil]
      show SR.next _ (trunc _ _ _) = _
      rw [under_take (by rw [z_len, z_len, (dim_out (R := R) N 0 (by omega)).len, (dim_inn (R := R) N (dim_out (R := R) N a (by omega)) ha m).len])]
      rfl)
  have D : Dim m (calledR p R m) := dim_out N m (Nat.le_refl m)
  have al := fun (σ : Sg) (ha : evA ⟨T, run T wf (d + 3), wf, t, none⟩ (.cons (.attr (.var 0) 2) .nil) σ o = .ok [.d (.int m)] o) => rows_laid (cx := ⟨T, run T wf (d + 3), wf, t, none⟩) (o := o) (own := [3]) (i := 3) (em := .attr (.var 0) 2) ha hm2 hw
  unfold bRenBy
  simp only [List.map_cons, List.map_nil, List.replicate, List.cons_append, List.nil_append, Nat.reduceSub, List.append_eq]
  rw [evB_cons, evS_set, al _ (by simp only [evA_cons, evA_nil, ev_attr, ev_var, List.getElem?_cons_succ, List.getElem?_cons_zero, asW_w, bnd_ok, at2, Option.map_some, okO_some]) (fun x o' => by simp only [killAll, List.set_cons_succ, List.set_cons_zero, ev_attr, ev_var, List.getElem?_cons_succ, List.getElem?_cons_zero, asW_w, bnd_ok, at2, Option.map_some, okO_some])]
  simp only [asW_w, bndS_ok, thn_next, List.set_cons_succ, List.set_cons_zero]
  have lp2 : evS ⟨T, run T wf (d + 3), wf, t, none⟩ (.for (.n 4) (.range (.cons (.attr (.var 0) 2) .nil)) [4, 5] (.cons (.for (.n 5) (.range (.cons (.attr (.var 0) 2) .nil)) [5] renIn) .nil)) [some (.d (groupV m R)), some (.d (rowD p)), some (.loc (o.length + m)), none, none, none, none] (Z o (zeros m)) = .next (τ m) (Z o (calledR p R m)) := lp
  rw [evB_cons, lp2, thn_next, evB_cons]
  have tl := rows_told (cx := ⟨T, run T wf (d + 3), wf, t, none⟩) (o := o) (own := [6]) (i := 6) (e := .var 2) (elt := .bi Bi.tup (.cons (.var 6) .nil)) (σ := τ m) (M := calledR p R m)
    (by simp only [τ, ev_var, List.getElem?_cons_succ, List.getElem?_cons_zero, asW_w, D.len]) (by rw [D.len]; exact hm2) hw (fun k hk => by
      simp only [τ, killAll, List.set_cons_succ, List.set_cons_zero, ev_bi, evA_cons, evA_nil, ev_var, List.getElem?_cons_succ, List.getElem?_cons_zero, asW_w, bnd_ok, tup_row hk])
  rw [evS_ret, ev_mk, evA_cons, tl]
  simp only [asW_w, bnd_ok, evA_nil, mk_good G (g.called N) (by omega : 32 < wf), bndS_ok, thn_ret, retR_d]
  unfold Z
  rw [List.take_left]
end
end Mi.N
end
section
set_option linter.all false
set_option Elab.async false
set_option maxHeartbeats 1000000
set_option autoImplicit false
namespace Mi.N
open PySem (Str Operator CmpOp)
/-! ### sorting -/
theorem ins_comm (a b : Int) : ∀ l : List Int, insI a (insI b l) = insI b (insI a l)
  | [] => by
    simp only [insI]
    by_cases h1 : a ≤ b <;> by_cases h2 : b ≤ a <;> simp [h1, h2]
    · omega
    · omega
  | y :: ys => by
    have ih := ins_comm a b ys
    simp only [insI]
    by_cases h1 : b ≤ y <;> by_cases h2 : a ≤ y <;> by_cases h3 : a ≤ b <;> by_cases h4 : b ≤ a <;> simp [insI, h1, h2, h3, h4, ih] <;> omega
theorem sort_perm {l l' : List Int} (h : l.Perm l') : sortI l = sortI l' := by
  induction h with
  | nil => rfl
  | cons x _ ih => exact congrArg (insI x) ih
  | swap x y l => exact ins_comm y x (sortI l)
  | trans _ _ h1 h2 => exact h1.trans h2
theorem sort_up : ∀ (n s : Nat), sortI ((List.range' s n).map Int.ofNat) = (List.range' s n).map Int.ofNat
  | 0, s => rfl
  | n + 1, s => by
    rw [List.range'_succ, List.map_cons]
    show insI (Int.ofNat s) (sortI ((List.range' (s + 1) n).map Int.ofNat)) = _
    rw [sort_up n (s + 1)]
    cases n with
    | zero => rfl
    | succ k =>
      rw [List.range'_succ, List.map_cons]
      show (if Int.ofNat s ≤ Int.ofNat (s + 1) then _ else _) = _
      exact if_pos (show Int.ofNat s ≤ Int.ofNat (s + 1) from Int.ofNat_le.mpr (Nat.le_succ s))
def srt (m : Nat) (r : List Nat) : Bool := decide (sortI (r.map Int.ofNat) = (List.range m).map Int.ofNat)
theorem srt_names {m : Nat} {p : List Nat} (N : Names m p) : srt m p = true := by
  refine decide_eq_true ?_
  rw [sort_perm (N.perm.map Int.ofNat), List.range_eq_range', sort_up]
theorem ints_int : ∀ r : List Nat, intsD (intL r) = some (r.map Int.ofNat)
  | [] => rfl
  | x :: xs => by
    show (match intsD (intL xs) with | some ys => some ((x : Int) :: ys) | none => none) = _
    rw [ints_int xs] <;> rfl
theorem eqDs_Int : ∀ a b : List Int, eqDs (a.map .int) (b.map .int) = decide (a = b)
  | [], [] => rfl
  | [], y :: ys => by simp [eqDs]
  | x :: xs, [] => by simp [eqDs]
  | x :: xs, y :: ys => by
    show (eqD (.int x) (.int y) && eqDs (xs.map .int) (ys.map .int)) = _
    rw [eqDs_Int xs ys]
    show ((x == y) && _) = _
    by_cases h : x = y <;> simp [h]
theorem plains_Int (n : Nat) : ∀ a : List Int, plains n (a.map .int) = true
  | [] => by simp [plains]
  | x :: xs => by
    show plains n (.int x :: xs.map .int) = true
    unfold plains
    rw [plains_Int n xs]
    cases n <;> simp [plain]
theorem plain_lInt (n : Nat) (a : List Int) : plain (n + 1) (.lst (a.map .int)) = true := by simp only [plain, plains_Int]
theorem sorted_row (r : List Nat) (o : List Ob) : opDs (biD Bi.sorted) [.d (rowD r)] o = .ok (flD ((sortI (r.map Int.ofNat)).map .int)) o := by
  show okO (match intsD (intL r) with | some ns => some (flD ((sortI ns).map .int)) | none => none) o = _
  rw [ints_int] <;> rfl
theorem cmp_sorted {cx : Cx} {m : Nat} {r : List Nat} {o : List Ob} : cmpW cx .Eq (.d (.lst ((sortI (r.map Int.ofNat)).map .int))) (.d (.lst (intL (List.range m)))) o = .ok (.w (.d (.bl (srt m r)))) o := by
  have e : intL (List.range m) = ((List.range m).map Int.ofNat).map .int := by
    unfold intL
    rw [List.map_map] <;> rfl
  rw [e, cmp_eq (plain_lInt 59 _) (plain_lInt 59 _) (fun s h => by cases h)]
  have : eqD (.lst ((sortI (r.map Int.ofNat)).map .int)) (.lst (((List.range m).map Int.ofNat).map .int)) = srt m r := eqDs_Int _ _
  rw [this]
/-! ### is_names -/
def isNm (m : Nat) (x : D) : Bool := rowOkD m x && (decide (nth (rowOf x) 0 = 0) && srt m (rowOf x))
def bIsNames : B :=
    (.cons (.ite (.not (.call 2 (.cons (.var 1) (.cons (.attr (.var 0) 2) (.cons (.attr (.var 0) 2) .nil)))))
    (.cons (.ret (.c (.bl false)))
    .nil)
    .nil)
    (.cons (.ite (.not (.bi Bi.all (.cons (.comp [2] (.n 2) (.of (.var 1)) (.c (.bl true)) (.call 1 (.cons (.var 2) (.cons (.c (.int 0)) (.cons (.bin .Sub (.attr (.var 0) 2) (.c (.int 1))) .nil))))) .nil)))
    (.cons (.ret (.c (.bl false)))
    .nil)
    .nil)
    (.cons (.ret (.and (.cmp .Eq (.idx (.var 1) (.c (.int 0))) (.c (.int 0))) (.cmp .Eq (.bi Bi.sorted (.cons (.var 1) .nil)) (.coll Bi.lst (.cons (.attr (.var 0) 2) .nil)))))
    .nil)))
section
variable {T : Tab} {wf d : Nat} {t : Option Thk} {cur : Option Ex} {o : List Ob} {m : Nat} {R : List (List Nat)} {p : List Nat} {cal : Cal}
theorem r_isNames (G : Grp T) (h : Has T 7 ⟨2, 3, bIsNames⟩) {x : D} (k : knR x = true) (hm : 1 ≤ m) (hm2 : m ≤ 32) (hw : 70 < wf) :
    run T wf (d + 3) 7 t [.d (groupV m R), .d x] o = .ok (.w (.d (.bl (isNm m x)))) o := by
  rw [run_has h rfl]
  have e2 := r_tup (T := T) (wf := wf) (d := d + 1) (t := none) (x := x) (a := m) (b := m) (o := o) G.h2 (knR_kn k)
  unfold bIsNames
  simp only [List.map_cons, List.map_nil, List.replicate, List.cons_append, List.nil_append, Nat.reduceSub, List.append_eq]
  rw [evB_cons]
  simp only [evS_if, ev_not, ev_call, ev_attr, evA_cons, evA_nil, ev_var, List.getElem?_cons_succ, List.getElem?_cons_zero, asW_w, bnd_ok, at2, Option.map_some, okO_some, e2, asT_bl, bndS_ok, wd_eq]
  by_cases q : tupIn x m m = true
  · cases x <;> simp only [tupIn] at q <;> first | (cases q; done) | skip
    rename_i ys
    have e3 : tupIn (.tup ys) m m = true := q
    rw [Bool.and_eq_true, decide_eq_true_eq, decide_eq_true_eq] at q
    have hl : ys.length = m := by omega
    have c : ∀ z, evE ⟨T, run T wf (d + 2), wf, t, none⟩ (.comp [2] (.n 2) (.of (.var 1)) (.c (.bl true)) (.call 1 (.cons (.var 2) (.cons (.c (.int 0)) (.cons (.bin .Sub (.attr (.var 0) 2) (.c (.int 1))) .nil)))))
      [some (.d (groupV m R)), some (.d (.tup ys)), z] o = .ok (flD ((ys.map fun x => isIn x 0 ((m : Int) - 1)).map .bl)) o := fun z => by
      rw [List.map_map]
      refine ev_compT (by simp) (fun x hx => ?_) (by show ys.length < wf; omega) (by unfold line; omega)
      have kx : kn x = true := List.all_eq_true.mp k x hx
      have r1 := r_within (T := T) (wf := wf) (d := d) (t := none) (a := 0) (b := (m : Int) - 1) (o := o) G.h0 G.h1 kx
      simp only [killAll, List.set_cons_succ, List.set_cons_zero, ev_call, ev_bin, ev_attr, ev_c, evA_cons, evA_nil, ev_var, List.getElem?_cons_succ, List.getElem?_cons_zero, asW_w, bnd_ok, at2, Option.map_some, okO_some, bin_sub, r1]
      rfl
    simp only [e3, Bool.not_true, Bool.false_eq_true, if_false, evB_nil, thn_next]
    rw [evB_cons]
    simp only [evS_if, ev_not, ev_bi, evA_cons, evA_nil, c, asW_flD, bnd_ok, all_flD, asT_bl, bndS_ok, wd_eq]
    have ea : ((ys.map fun x => isIn x 0 ((m : Int) - 1)).all id) = ys.all fun x => isIn x 0 ((m : Int) - 1) := by rw [List.all_map] <;> rfl
    rw [ea]
    have er : rowOkD m (.tup ys) = ys.all fun x => isIn x 0 ((m : Int) - 1) := by
      show (decide (ys.length = m) && _) = _
      rw [decide_eq_true hl] <;> rfl
    unfold isNm
    rw [er]
    cases hc : (ys.all fun x => isIn x 0 ((m : Int) - 1)) with
    | false => simp
    | true =>
      rw [hc] at er
      obtain ⟨ex, l1, l2⟩ := row_isD er
      rw [ex, rowOf_row]
      generalize rowOf (.tup ys) = r at l1 l2 ⊢
      have e0 : idxW o (.d (rowD r)) (.int 0) = some (.d (.int (nth r 0 : Nat))) := idx_rowD (r := r) (i := 0) (by omega)
      simp only [Bool.not_true, Bool.false_eq_true, if_false, evB_nil, thn_next]
      rw [evB_cons]
      simp only [evS_ret, ev_and, ev_cmp, ev_idx, ev_bi, ev_coll, ev_attr, ev_c, evA_cons, evA_nil, ev_var, List.getElem?_cons_succ, List.getElem?_cons_zero, asW_w, bnd_ok, idxR, view_d, e0, Option.map_some, okO_some, cmp_eq_int, asT_bl, sorted_row, asW_flD, at2, coll_lst (by unfold line; omega : m ≤ line), cmp_sorted]
      by_cases z : nth r 0 = 0
      · simp [z]
      · have z2 : ¬ (nth r 0 : Int) = 0 := by omega
        simp [z, z2]
  · have e3 : tupIn x m m = false := by simpa using q
    have er : rowOkD m x = false := by
      cases x <;> first | rfl | skip
      rename_i ys
      simp only [tupIn, Bool.and_eq_false_iff, decide_eq_false_iff_not] at e3
      show (decide (ys.length = m) && _) = _
      rw [decide_eq_false (by omega)] <;> rfl
    unfold isNm
    rw [er]
    simp [e3]
theorem isNm_names (N : Names m p) : isNm m (rowD p) = true := by
  unfold isNm
  rw [rowOf_row, srt_names N, N.zero, rowOk_row N.len fun k hk => List.mem_range.mp (N.perm.mem_iff.mp hk)]
  rfl
/-! ### renamed -/
def bRenamed : B :=
    (.cons (.ite (.not (.call 7 (.cons (.var 0) (.cons (.var 1) .nil))))
    (.cons (.raise 21 .nil)
    .nil)
    .nil)
    (.cons (.ret (.call 6 (.cons (.var 0) (.cons (.var 1) .nil))))
    .nil))
theorem r_renamed (G : Grp T) (h6 : Has T 6 ⟨2, 7, bRenBy⟩) (h7 : Has T 7 ⟨2, 3, bIsNames⟩) (h8 : Has T 8 ⟨2, 2, bRenamed⟩) (g : Good m R) (N : Names m p) (hw : 70 < wf) :
    run T wf (d + 5) 8 t [.d (groupV m R), .d (rowD p)] o = .ok (.w (.d (groupV m (calledR p R m)))) o := by
  rw [run_has h8 rfl]
  have e1 := r_isNames (T := T) (wf := wf) (d := d + 1) (t := none) (o := o) (R := R) G h7 (x := rowD p) (kn_intL p) g.lo g.hi hw
  rw [isNm_names N] at e1
  have e2 := r_renBy (T := T) (wf := wf) (d := d) (t := none) (o := o) G h6 g N hw
  simp [bRenamed, e1, e2]
theorem r_renamedNo (G : Grp T) (h7 : Has T 7 ⟨2, 3, bIsNames⟩) (h8 : Has T 8 ⟨2, 2, bRenamed⟩) (h21 : T.cl 21 = some ⟨none, none, false, some []⟩) {x : D} (k : knR x = true) (hm : 1 ≤ m) (hm2 : m ≤ 32) (hx : isNm m x = false) (hw : 70 < wf) :
    run T wf (d + 5) 8 t [.d (groupV m R), .d x] o = .exc ⟨21, []⟩ o := by
  rw [run_has h8 rfl]
  have e1 := r_isNames (T := T) (wf := wf) (d := d + 1) (t := none) (o := o) (R := R) G h7 k hm hm2 hw
  rw [hx] at e1
  simp [bRenamed, e1, raiseS, h21, allD]
def bRefused : B :=
    (.cons (.try (.cons (.ex .thk)
    .nil) 90 (some 1)
    (.cons (.ret (.and (.exis 1 21) (.exis 1 91)))
    .nil))
    (.cons (.ret (.c (.bl false)))
    .nil))
theorem r_refused {i : Nat} {th : Thk} (hs : T.sub = subB) (h : Has T i ⟨0, 2, bRefused⟩) (ht : th o = .exc ⟨21, []⟩ o) : run T wf (d + 1) i (some th) [] o = .ok (.w (.d (.bl true))) o := by
  rw [run_has h rfl]
  unfold bRefused
  rw [evB_cons, evS_try]
  simp [ht, hs, subB]
end
end Mi.N
end
section
set_option linter.all false
set_option Elab.async false
set_option maxHeartbeats 1000000
set_option autoImplicit false
namespace Mi.N
open PySem (Str Operator CmpOp)
theorem asW_lst {ws : List W} {xs : List D} {o : List Ob} (h : allD ws = some xs) (hl : ws.length ≤ line) : asW (lstR ws o) = .ok (.d (.lst xs)) o := by
  unfold lstR
  rw [if_pos hl]
  show okO (match allD ws with | some xs => some (W.d (.lst xs)) | none => none) o = _
  rw [h] <;> rfl
theorem tupR_ok {ws : List W} {xs : List D} {o : List Ob} (h : allD ws = some xs) (hl : ws.length ≤ line) : tupR ws o = .ok (.w (.d (.tup xs))) o := by
  unfold tupR
  rw [h]
  show (if ws.length ≤ line then _ else _) = _
  rw [if_pos hl] <;> rfl
theorem bin_addT {xs ys : List D} {o : List Ob} (h : xs.length + ys.length ≤ line) : opD2 (binD .Add) (.d (.tup xs)) (.d (.tup ys)) o = .ok (.w (.d (.tup (xs ++ ys)))) o := by
  show okO (if xs.length + ys.length ≤ line then some (Val.w (.d (.tup (xs ++ ys)))) else none) o = _
  rw [if_pos h] <;> rfl
theorem bin_addL {xs ys : List D} {o : List Ob} (h : xs.length + ys.length ≤ line) : opD2 (binD .Add) (.d (.lst xs)) (.d (.lst ys)) o = .ok (flD (xs ++ ys)) o := by
  show okO (if xs.length + ys.length ≤ line then some (flD (xs ++ ys)) else none) o = _
  rw [if_pos h] <;> rfl
theorem mul_lst {xs : List D} {k : Int} {o : List Ob} (p1 : decide (-(2 ^ 63) ≤ k) = true) (p2 : decide (k < 2 ^ 63) = true) (p3 : decide (xs.length * k.toNat ≤ line) = true) : opD2 (binD .Mult) (.d (.lst xs)) (.d (.int k)) o = .ok (flD (List.replicate k.toNat xs).flatten) o := by
  show okO (binD .Mult (.lst xs) (.int k)) o = _
  rw [mult_lst p1 p2 p3] <;> rfl
theorem mul_tup {xs : List D} {k : Int} {o : List Ob} (p1 : decide (-(2 ^ 63) ≤ k) = true) (p2 : decide (k < 2 ^ 63) = true) (p3 : decide (xs.length * k.toNat ≤ line) = true) : opD2 (binD .Mult) (.d (.tup xs)) (.d (.int k)) o = .ok (.w (.d (.tup (List.replicate k.toNat xs).flatten))) o := by
  show okO (binD .Mult (.tup xs) (.int k)) o = _
  rw [mult_tup p1 p2 p3] <;> rfl
theorem mul_lst_nat {xs : List D} {k : Nat} {o : List Ob} (hk : k ≤ 1000) (hx : xs.length ≤ 1000) : opD2 (binD .Mult) (.d (.lst xs)) (.d (.int (k : Nat))) o = .ok (flD (List.replicate k xs).flatten) o := by
  have h : xs.length * k ≤ 1000 * 1000 := Nat.mul_le_mul hx hk
  have := mul_lst (xs := xs) (k := (k : Int)) (o := o) (decide_eq_true (by rw [two63]; omega)) (decide_eq_true (by rw [two63]; omega)) (decide_eq_true (by rw [Int.toNat_natCast]; unfold line; omega))
  rw [this, Int.toNat_natCast]
theorem mul_tup_nat {xs : List D} {k : Nat} {o : List Ob} (hk : k ≤ 1000) (hx : xs.length ≤ 1000) : opD2 (binD .Mult) (.d (.tup xs)) (.d (.int (k : Nat))) o = .ok (.w (.d (.tup (List.replicate k xs).flatten))) o := by
  have h : xs.length * k ≤ 1000 * 1000 := Nat.mul_le_mul hx hk
  have := mul_tup (xs := xs) (k := (k : Int)) (o := o) (decide_eq_true (by rw [two63]; omega)) (decide_eq_true (by rw [two63]; omega)) (decide_eq_true (by rw [Int.toNat_natCast]; unfold line; omega))
  rw [this, Int.toNat_natCast]
theorem sl_tup {xs : List D} {lo hi : Option Int} {o : List Ob} : slR (.d (.tup xs)) lo hi o = .ok (.w (.d (.tup (cut xs lo hi)))) o := Eq.trans rfl rfl
theorem rev_tup {xs : List D} {o : List Ob} : opD1 revD (.d (.tup xs)) o = .ok (.w (.d (.tup xs.reverse))) o := Eq.trans rfl rfl
@[simp] theorem part_f (w : W) : partW false w = some none := Eq.trans rfl rfl
@[simp] theorem part_t (i : Int) : partW true (.d (.int i)) = some (some i) := Eq.trans rfl rfl
theorem cut_mem {α : Type} {xs : List α} {lo hi : Option Int} {x : α} (h : x ∈ cut xs lo hi) : x ∈ xs := by
  unfold cut at h
  exact List.mem_of_mem_drop (List.mem_of_mem_take h)
theorem cut_len {α : Type} (xs : List α) (lo hi : Option Int) : (cut xs lo hi).length ≤ xs.length := by
  unfold cut
  rw [List.length_take, List.length_drop]
  omega
/-- one item otherwise -/
def repl (xs : List D) (k : Int) (x : D) : List D := cut xs none (some k) ++ [x] ++ cut xs (some (k + 1)) none
theorem repl_mem {xs : List D} {k : Int} {x y : D} (h : y ∈ repl xs k x) : y ∈ xs ∨ y = x := by
  unfold repl at h
  rcases List.mem_append.mp h with h | h
  · rcases List.mem_append.mp h with h | h
    · exact .inl (cut_mem h)
    · exact .inr (List.mem_singleton.mp h)
  · exact .inl (cut_mem h)
theorem repl_ev {xs : List D} {k : Int} {x : D} {o : List Ob} (h : xs.length ≤ 1000) :
    bnd (asW (opD2 (binD .Add) (.d (.tup (cut xs none (some k)))) (.d (.tup [x])) o)) (fun y o2 => opD2 (binD .Add) y (.d (.tup (cut xs (some (k + 1)) none))) o2) = .ok (.w (.d (.tup (repl xs k x)))) o := by
  have l1 := cut_len xs none (some k)
  have l2 := cut_len xs (some (k + 1)) none
  rw [bin_addT (by simp [line]; omega), asW_w, bnd_ok, bin_addT (by simp [line]; omega)]
  rfl
theorem max_int {i j : Int} {o : List Ob} : opDs (biD Bi.max) [.d (.int i), .d (.int j)] o = .ok (.w (.d (.int (if j > i then j else i)))) o := Eq.trans rfl rfl
/-- a table of so many, told by a comprehension of comprehensions -/
theorem ev_tab2 {cx : Cx} {own own1 : List Nat} {i j : Nat} {as as1 : A} {elt : E} {σ : Sg} {o : List Ob} {m : Nat} {g : Nat → Nat → D} (hi : evA cx as σ o = .ok [.d (.int m)] o) (hm : m ≤ 64) (hw : 70 < cx.wf)
    (hi1 : ∀ a < m, evA cx as1 ((killAll σ own).set i (some (.d (.int (a : Nat))))) o = .ok [.d (.int m)] o)
    (h : ∀ a < m, ∀ b < m, asW (evE cx elt ((killAll ((killAll σ own).set i (some (.d (.int (a : Nat))))) own1).set j (some (.d (.int (b : Nat))))) o) = .ok (.d (g a b)) o) :
    evE cx (.bi Bi.tup (.cons (.comp own (.n i) (.range as) (.c (.bl true)) (.bi Bi.tup (.cons (.comp own1 (.n j) (.range as1) (.c (.bl true)) elt) .nil))) .nil)) σ o = .ok (.w (.d (.tup ((List.range m).map fun a => .tup ((List.range m).map (g a)))))) o := by
  have c2 : evE cx (.comp own (.n i) (.range as) (.c (.bl true)) (.bi Bi.tup (.cons (.comp own1 (.n j) (.range as1) (.c (.bl true)) elt) .nil))) σ o = .ok (flD ((List.range m).map fun a => .tup ((List.range m).map (g a)))) o := by
    refine ev_compR hi (fun a ha => ?_) (by omega) (by unfold line; omega)
    rw [ev_bi, evA_cons, ev_compR (hi1 a ha) (h a ha) (by omega) (by unfold line; omega), asW_flD, bnd_ok, evA_nil, bnd_ok, bnd_ok, tup_flD, asW_w]
  rw [ev_bi, evA_cons, c2, asW_flD, bnd_ok, evA_nil, bnd_ok, bnd_ok, tup_flD]
def bBent (iDraw iAny : Nat) : B :=
    (.cons (.set 2 (.bi Bi.len (.cons (.var 1) .nil)))
    (.cons (.par (.cons (.n 3) (.cons (.n 4) (.cons (.n 5) .nil))) (.cons (.call iDraw (.cons (.var 0) (.cons (.var 2) .nil))) (.cons (.call iDraw (.cons (.var 0) (.cons (.var 2) .nil))) (.cons (.call iDraw (.cons (.var 0) (.cons (.var 2) .nil))) .nil))))
    (.cons (.set 6 (.idx (.var 1) (.var 3)))
    (.cons (.set 7 (.call iAny (.cons (.var 0) (.cons (.lst (.cons (.var 2) (.cons (.neg (.c (.int 1))) (.cons (.c .non) (.cons (.c (.bl true)) (.cons (.c (.str (PySem.Str.ofString "0"))) (.cons (.c (.int 0)) (.cons (.var 5) (.cons (.idx (.var 6) (.var 5)) .nil))))))))) .nil))))
    (.cons (.set 8 (.bin .Add (.bin .Mult (.lst (.cons (.bin .Add (.bin .Add (.sl false true (.var 6) (.c .non) (.var 4)) (.tup (.cons (.var 7) .nil))) (.sl true false (.var 6) (.bin .Add (.var 4) (.c (.int 1))) (.c .non))) .nil)) (.c (.int 3))) (.lst (.cons (.sl false true (.var 6) (.c .non) (.neg (.c (.int 1)))) (.cons (.bin .Add (.var 6) (.tup (.cons (.c (.int 0)) .nil))) (.cons (.bi Bi.lst (.cons (.var 6) .nil)) (.cons (.rev (.var 6)) (.cons (.c .non) (.cons (.idx (.var 1) (.var 5)) .nil)))))))))
    (.cons (.set 9 (.alloc (.bi Bi.lst (.cons (.var 6) .nil))))
    (.cons (.parS (.cons (.var 9) (.cons (.var 9) .nil)) (.cons (.var 4) (.cons (.var 5) .nil)) (.cons (.idx (.var 9) (.var 5)) (.cons (.idx (.var 9) (.var 4)) .nil)))
    (.cons (.set 10 (.bin .Mult (.comp [11] (.n 11) (.of (.bin .Add (.var 8) (.lst (.cons (.bi Bi.tup (.cons (.var 9) .nil)) .nil)))) (.c (.bl true)) (.bin .Add (.bin .Add (.sl false true (.var 1) (.c .non) (.var 3)) (.tup (.cons (.var 11) .nil))) (.sl true false (.var 1) (.bin .Add (.var 3) (.c (.int 1))) (.c .non)))) (.c (.int 2))))
    (.cons (.set 10 (.bin .Add (.var 10) (.lst (.cons (.bi Bi.lst (.cons (.var 1) .nil)) (.cons (.sl true false (.var 1) (.c (.int 1)) (.c .non)) (.cons (.bin .Add (.var 1) (.sl false true (.var 1) (.c .non) (.c (.int 1)))) (.cons (.c .non) (.cons (.tup .nil) (.cons (.c (.int 0)) (.cons (.c (.dct [])) (.cons (.rev (.var 1)) (.cons (.bin .Mult (.tup (.cons (.coll Bi.tup (.cons (.c (.int 33)) .nil)) .nil)) (.c (.int 33))) .nil))))))))))))
    (.cons (.set 12 (.bi Bi.tup (.cons (.comp [14] (.n 14) (.range (.cons (.var 2) .nil)) (.c (.bl true)) (.bi Bi.tup (.cons (.comp [13] (.n 13) (.range (.cons (.var 2) .nil)) (.c (.bl true)) (.bi Bi.max (.cons (.var 14) (.cons (.var 13) .nil)))) .nil))) .nil)))
    (.cons (.set 15 (.bi Bi.tup (.cons (.comp [14] (.n 14) (.range (.cons (.var 2) .nil)) (.c (.bl true)) (.bi Bi.tup (.cons (.comp [13] (.n 13) (.range (.cons (.var 2) .nil)) (.c (.bl true)) (.bi Bi.abs (.cons (.bin .Sub (.var 14) (.var 13)) .nil))) .nil))) .nil)))
    (.cons (.ret (.call iAny (.cons (.var 0) (.cons (.bin .Add (.var 10) (.lst (.cons (.var 12) (.cons (.var 15) .nil)))) .nil))))
    .nil))))))))))))
end Mi.N
end
section
set_option linter.all false
set_option Elab.async false
set_option maxHeartbeats 2000000
set_option autoImplicit false
namespace Mi.N
open PySem (Str Operator CmpOp)
theorem coll_tup {m : Nat} {o : List Ob} (h : m ≤ line) : collR Bi.tup [.d (.int m)] o = .ok (.w (.d (rowD (List.range m)))) o := by
  have q : rngOk (m : Int) = true := rng_small h
  unfold collR
  simp only [q, if_true, Int.toNat_natCast, h, rngs_int]
  rfl
theorem coll_33 {o : List Ob} : collR Bi.tup [.d (.int 33)] o = .ok (.w (.d (rowD (List.range 33)))) o := coll_tup (m := 33) (by decide)
theorem all_kn {xs : List D} (h : ∀ x ∈ xs, kn x = true) : knR (.tup xs) = true := List.all_eq_true.mpr h
theorem all_knR {xs : List D} (h : ∀ x ∈ xs, knR x = true) : knT (.tup xs) = true := List.all_eq_true.mpr h
theorem knInt {r : List Nat} {x : D} (h : x ∈ intL r) : kn x = true := List.all_eq_true.mp (kn_intL r) x h
theorem knRow {R : List (List Nat)} {x : D} (h : x ∈ tabL R) : knR x = true := by
  obtain ⟨r, _, rfl⟩ := List.mem_map.mp h
  exact kn_intL r
/-- what row may stand in a table that is bent -/
def bentRows (r s q : List Nat) (b : Int) (odd : D) : List D :=
  ((List.replicate 3 [D.tup (repl (intL r) b odd)]).flatten ++ [.tup (cut (intL r) none (some (-1))), .tup (intL r ++ [.int 0]), .lst (intL r), .tup (intL r).reverse, .non, rowD q]) ++ [rowD s]
theorem bentRows_kn {r s q : List Nat} {b : Int} {odd x : D} (ho : kn odd = true) (h : x ∈ bentRows r s q b odd) : knR x = true := by
  unfold bentRows at h
  simp only [List.mem_append, List.mem_flatten, List.mem_replicate, List.mem_cons, List.not_mem_nil, or_false] at h
  rcases h with (⟨l, ⟨_, rfl⟩, h⟩ | rfl | rfl | rfl | rfl | rfl | rfl) | rfl
  · rw [List.mem_singleton] at h
    subst h
    refine all_kn fun y hy => ?_
    rcases repl_mem hy with h | rfl
    · exact knInt h
    · exact ho
  · exact all_kn fun y hy => knInt (cut_mem hy)
  · refine all_kn fun y hy => ?_
    rcases List.mem_append.mp hy with h | h
    · exact knInt h
    · rw [List.mem_singleton.mp h] <;> rfl
  · rfl
  · exact all_kn fun y hy => knInt (List.mem_reverse.mp hy)
  · rfl
  · exact kn_intL _
  · exact kn_intL _
def bentTabs (R : List (List Nat)) (r s q : List Nat) (a b : Int) (odd p1 p2 : D) : List D :=
  ((List.replicate 2 ((bentRows r s q b odd).map fun x => D.tup (repl (tabL R) a x))).flatten ++
    [.lst (tabL R), .tup (cut (tabL R) (some 1) none), .tup (tabL R ++ cut (tabL R) none (some 1)), .non, .tup [], .int 0, .dct [], .tup (tabL R).reverse, .tup (List.replicate 33 [rowD (List.range 33)]).flatten]) ++ [p1, p2]
theorem bentTabs_kn {R : List (List Nat)} {r s q : List Nat} {a b : Int} {odd p1 p2 x : D} (ho : kn odd = true) (h1 : knT p1 = true) (h2 : knT p2 = true) (h : x ∈ bentTabs R r s q a b odd p1 p2) : knT x = true := by
  unfold bentTabs at h
  simp only [List.mem_append, List.mem_flatten, List.mem_replicate, List.mem_cons, List.not_mem_nil, or_false] at h
  rcases h with (⟨l, ⟨_, rfl⟩, h⟩ | rfl | rfl | rfl | rfl | rfl | rfl | rfl | rfl | rfl) | rfl | rfl
  · obtain ⟨y, hy, rfl⟩ := List.mem_map.mp h
    refine all_knR fun z hz => ?_
    rcases repl_mem hz with h | rfl
    · exact knRow h
    · exact bentRows_kn ho hy
  · rfl
  · exact all_knR fun y hy => knRow (cut_mem hy)
  · refine all_knR fun y hy => ?_
    rcases List.mem_append.mp hy with h | h
    · exact knRow h
    · exact knRow (cut_mem h)
  · rfl
  · rfl
  · rfl
  · rfl
  · exact all_knR fun y hy => knRow (List.mem_reverse.mp hy)
  · refine all_knR fun y hy => ?_
    simp only [List.mem_flatten, List.mem_replicate] at hy
    obtain ⟨l, ⟨_, rfl⟩, h⟩ := hy
    rw [List.mem_singleton.mp h]
    exact kn_intL _
  · exact h1
  · exact h2
theorem kn_tab2 {m : Nat} {g : Nat → Nat → Int} : knT (.tup ((List.range m).map fun a => .tup ((List.range m).map fun b => .int (g a b)))) = true := by
  refine all_knR fun y hy => ?_
  obtain ⟨a, _, rfl⟩ := List.mem_map.mp hy
  refine all_kn fun z hz => ?_
  obtain ⟨b, _, rfl⟩ := List.mem_map.mp hz
  rfl
section
variable {T : Tab} {wf d : Nat} {t : Option Thk} {cur : Option Ex} {o : List Ob} {m n : Nat} {R : List (List Nat)} {cal : Cal}
theorem swap_ev {cx : Cx} {k b c : Nat} {r : List Nat} {σ : Sg} (hk : o[k]? = some (.lst ((intL r).map .d))) (hb : b < r.length) (hc : c < r.length) (h9 : σ[9]? = some (some (.loc k))) (h4 : σ[4]? = some (some (.d (.int (b : Nat))))) (h5 : σ[5]? = some (some (.d (.int (c : Nat))))) :
    evS cx (.parS (.cons (.var 9) (.cons (.var 9) .nil)) (.cons (.var 4) (.cons (.var 5) .nil)) (.cons (.idx (.var 9) (.var 5)) (.cons (.idx (.var 9) (.var 4)) .nil))) σ o = .next σ (o.set k (.lst ((intL ((r.set b (nth r c)).set c (nth r b))).map .d))) := by
  have at_ : ∀ j, j < r.length → idxW o (.loc k) (.int (j : Nat)) = some (.d (.int (nth r j : Nat))) := fun j hj => by
    rw [idx_loc hk, atI_nat (by simpa using hj)]
    simp [intL, nth_eq, hj]
  have s1 : setiW o (.loc k) (.int (b : Nat)) (.d (.int (nth r c : Nat))) = some (o.set k (.lst ((intL (r.set b (nth r c))).map .d))) := by
    rw [seti_loc (j := b) hk (by rw [List.length_map, intL_len]; exact ixN_nat hb)]
    unfold intL
    rw [List.map_set, List.map_set]
  have hk2 : (o.set k (.lst ((intL (r.set b (nth r c))).map .d)))[k]? = some (.lst ((intL (r.set b (nth r c))).map .d)) := set_get hk
  have s2 : setiW (o.set k (.lst ((intL (r.set b (nth r c))).map .d))) (.loc k) (.int (c : Nat)) (.d (.int (nth r b : Nat))) = some (o.set k (.lst ((intL ((r.set b (nth r c)).set c (nth r b))).map .d))) := by
    rw [seti_loc (j := c) hk2 (by rw [List.length_map, intL_len, List.length_set]; exact ixN_nat hc), List.set_set]
    unfold intL
    simp only [List.map_set]
  simp only [evS_parS, evA_cons, evA_nil, ev_idx, ev_var, h9, h4, h5, asW_w, bnd_ok, idxR, view_d, at_ b hb, at_ c hc, Option.map_some, okO_some, bndS_ok, evPs, storeAll, s1, s2]
theorem r_bent {i iDraw iAny : Nat} {h : Ob} (hd : Has T iDraw ⟨2, 5, bDraw⟩) (ha : Has T iAny ⟨2, 2, bAny iDraw⟩) (hi : Has T i ⟨2, 16, bBent iDraw iAny⟩) (hh : IsHand h) (hn : o[n]? = some h) (S : Sq m R) (hm : 1 ≤ m) (hm2 : m ≤ 32) (hw : 70 < wf) :
    ∃ (x : D) (h' : Ob), knT x = true ∧ IsHand h' ∧ run T wf (d + 3) i t [.loc n, .d (tabD R)] o = .ok (.w (.d x)) (o.set n h') := by
  rw [run_has hi rfl]
  obtain ⟨a, ha1, pa, qa, e1⟩ := r_draw (T := T) (wf := wf) (d := d + 1) (t := none) (m := m) hd hh hn (by omega) (by omega)
  obtain ⟨b, hb1, pb, qb, e2⟩ := r_draw (T := T) (wf := wf) (d := d + 1) (t := none) (m := m) hd qa (set_get hn) (by omega) (by omega)
  rw [List.set_set] at e2
  obtain ⟨c, hc1, pc, qc, e3⟩ := r_draw (T := T) (wf := wf) (d := d + 1) (t := none) (m := m) hd qb (set_get hn) (by omega) (by omega)
  rw [List.set_set] at e3
  have rl : (rowAt R a).length = m := S.getl pa
  have ei : ∀ o' : List Ob, idxW o' (.d (tabD R)) (.int (a : Nat)) = some (.d (rowD (rowAt R a))) := fun o' => idx_tabD S pa
  have ec : ∀ o' : List Ob, idxW o' (.d (tabD R)) (.int (c : Nat)) = some (.d (rowD (rowAt R c))) := fun o' => idx_tabD S pc
  have ej : ∀ o' : List Ob, idxW o' (.d (rowD (rowAt R a))) (.int (c : Nat)) = some (.d (.int (nth (rowAt R a) c : Nat))) := fun o' => idx_rowD (by rw [rl]; exact pc)
  let odds : List D := [.int m, .int (-1), .non, .bl true, .str (PySem.Str.ofString "0"), .int 0, .int c, .int (nth (rowAt R a) c : Nat)]
  obtain ⟨k, h4, hk, q4, e4⟩ := r_any (T := T) (wf := wf) (d := d) (t := none) (xs := odds) hd ha qc (set_get hn) (by simp [odds]) (by simp [odds])
  rw [List.set_set] at e4
  have ho : kn odds[k] = true := by
    have : ∀ x ∈ odds, kn x = true := by
      intro x hx
      simp only [odds, List.mem_cons, List.not_mem_nil, or_false] at hx
      rcases hx with rfl | rfl | rfl | rfl | rfl | rfl | rfl | rfl <;> rfl
    exact this _ (List.getElem_mem hk)
  generalize odds[k] = odd at e4 ho
  have hn4 : (o.set n h4)[n]? = some h4 := set_get hn
  have hl4 : (o.set n h4).length = o.length := List.length_set
  have eo : ∀ o' : List Ob, asW (lstR [.d (.int m), .d (.int (-1)), .d .non, .d (.bl true), .d (.str (PySem.Str.ofString "0")), .d (.int 0), .d (.int c), .d (.int (nth (rowAt R a) c : Nat))] o') = .ok (.d (.lst odds)) o' := fun o' => asW_lst rfl (by simp [line])
  unfold bBent
  simp only [List.map_cons, List.map_nil, List.replicate, List.cons_append, List.nil_append, Nat.reduceSub, List.append_eq]
  rw [evB_cons]
  simp only [evS_set, ev_bi, evA_cons, evA_nil, ev_var, List.getElem?_cons_succ, List.getElem?_cons_zero, asW_w, bnd_ok, len_tab S, bndS_ok, thn_next, List.set_cons_succ, List.set_cons_zero]
  rw [evB_cons]
  simp only [evS_par, evA_cons, evA_nil, ev_call, ev_var, List.getElem?_cons_succ, List.getElem?_cons_zero, asW_w, bnd_ok, e1, e2, e3, bndS_ok, bindTs, bindT, thn_next, List.set_cons_succ, List.set_cons_zero]
  rw [evB_cons]
  simp only [evS_set, ev_idx, ev_var, List.getElem?_cons_succ, List.getElem?_cons_zero, asW_w, bnd_ok, idxR, view_d, ei, Option.map_some, okO_some, bndS_ok, thn_next, List.set_cons_succ, List.set_cons_zero]
  rw [evB_cons]
  simp only [evS_set, ev_call, ev_lst, ev_neg, ev_c, ev_idx, ev_var, evA_cons, evA_nil, List.getElem?_cons_succ, List.getElem?_cons_zero, asW_w, bnd_ok, idxR, view_d, neg_int, ej, Option.map_some, okO_some, eo, e4, bndS_ok, thn_next, List.set_cons_succ, List.set_cons_zero]
  -- the rows
  generalize ho4 : o.set n h4 = o4 at hn4 hl4
  rw [evB_cons]
  let L8 : List D := (List.replicate 3 [D.tup (repl (intL (rowAt R a)) b odd)]).flatten ++ [.tup (cut (intL (rowAt R a)) none (some (-1))), .tup (intL (rowAt R a) ++ [.int 0]), .lst (intL (rowAt R a)), .tup (intL (rowAt R a)).reverse, .non, rowD (rowAt R c)]
  have il : (intL (rowAt R a)).length = m := by rw [intL_len, rl]
  have t1 : ∀ x : D, tupR [.d x] o4 = .ok (.w (.d (.tup [x]))) o4 := fun x => tupR_ok rfl (by simp [line])
  have rv := repl_ev (xs := intL (rowAt R a)) (k := b) (x := odd) (o := o4) (by rw [il]; omega)
  have rd : rowD (rowAt R a) = .tup (intL (rowAt R a)) := rfl
  have m3 : ∀ x : D, opD2 (binD .Mult) (.d (.lst [x])) (.d (.int 3)) o4 = .ok (flD (List.replicate 3 [x]).flatten) o4 := fun x => mul_lst_nat (k := 3) (by omega) (by simp)
  have l1 : ∀ x : D, asW (lstR [.d x] o4) = .ok (.d (.lst [x])) o4 := fun x => asW_lst rfl (by simp [line])
  have a0 : opD2 (binD .Add) (.d (.tup (intL (rowAt R a)))) (.d (.tup [.int 0])) o4 = .ok (.w (.d (.tup (intL (rowAt R a) ++ [.int 0])))) o4 := bin_addT (by rw [il]; simp [line]; omega)
  have l6 : ∀ x1 x2 x3 x4 x5 x6 : D, asW (lstR [.d x1, .d x2, .d x3, .d x4, .d x5, .d x6] o4) = .ok (.d (.lst [x1, x2, x3, x4, x5, x6])) o4 := fun _ _ _ _ _ _ => asW_lst rfl (by simp [line])
  have ad : opD2 (binD .Add) (.d (.lst (List.replicate 3 [D.tup (repl (intL (rowAt R a)) b odd)]).flatten)) (.d (.lst [.tup (cut (intL (rowAt R a)) none (some (-1))), .tup (intL (rowAt R a) ++ [.int 0]), .lst (intL (rowAt R a)), .tup (intL (rowAt R a)).reverse, .non, rowD (rowAt R c)])) o4 = .ok (flD L8) o4 := bin_addL (by simp [line])
  have ls : opDs (biD Bi.lst) [.d (.tup (intL (rowAt R a)))] o4 = .ok (flD (intL (rowAt R a))) o4 := lst_tup _ _
  simp only [evS_set, ev_bin, ev_lst, ev_sl, ev_tup, ev_bi, ev_rev, ev_idx, ev_neg, ev_c, ev_var, evA_cons, evA_nil, List.getElem?_cons_succ, List.getElem?_cons_zero, asW_w, bnd_ok, part_f, part_t, okO_some, rd, sl_tup, t1, bin_add, rv, l1, m3, asW_flD, neg_int, a0, ls, rev_tup, idxR, view_d, ec, Option.map_some, l6, ad, bndS_ok, thn_next, List.set_cons_succ, List.set_cons_zero]
  -- two exchanged
  have hb' : b < (rowAt R a).length := by rw [rl]; exact pb
  have hc' : c < (rowAt R a).length := by rw [rl]; exact pc
  obtain ⟨s, hs⟩ : ∃ s, ((rowAt R a).set b (nth (rowAt R a) c)).set c (nth (rowAt R a) b) = s := ⟨_, rfl⟩
  have al : allocR (flD (intL (rowAt R a))) o4 = .ok (.w (.loc o4.length)) (o4 ++ [.lst ((intL (rowAt R a)).map .d)]) := rfl
  rw [evB_cons]
  simp only [evS_set, ev_alloc, ev_bi, ev_var, evA_cons, evA_nil, List.getElem?_cons_succ, List.getElem?_cons_zero, asW_w, bnd_ok, ls, al, bndS_ok, thn_next, List.set_cons_succ, List.set_cons_zero]
  rw [evB_cons, swap_ev (k := o4.length) (b := b) (c := c) (r := rowAt R a) ap0 hb' hc' rfl rfl rfl, thn_next, st0, hs]
  have hk5 : (o4 ++ [Ob.lst ((intL s).map .d)])[o4.length]? = some (.lst ((intL s).map .d)) := ap0
  have hn5 : (o4 ++ [Ob.lst ((intL s).map .d)])[n]? = some h4 := by
    rw [List.getElem?_append_left (List.getElem?_eq_some_iff.mp hn4).1]
    exact hn4
  have hl5 : (o4 ++ [Ob.lst ((intL s).map .d)]).length = o.length + 1 := by rw [List.length_append, hl4] <;> rfl
  have fin : ∀ h' : Ob, ((o4 ++ [Ob.lst ((intL s).map .d)]).set n h').take o.length = o.set n h' := fun h' => by
    rw [List.set_append_left _ _ (List.getElem?_eq_some_iff.mp hn4).1, ← hl4, ← (List.length_set : (o4.set n h').length = o4.length), List.take_left, ← ho4, List.set_set]
  generalize o4 ++ [Ob.lst ((intL s).map .d)] = o5 at hk5 hn5 hl5 fin
  have tp : opDs (biD Bi.tup) [.loc o4.length] o5 = .ok (.w (.d (rowD s))) o5 := tup_loc hk5
  -- the tables
  have l1' : ∀ x : D, asW (lstR [.d x] o5) = .ok (.d (.lst [x])) o5 := fun x => asW_lst rfl (by simp [line])
  have ad1 : opD2 (binD .Add) (.d (.lst L8)) (.d (.lst [rowD s])) o5 = .ok (flD (bentRows (rowAt R a) s (rowAt R c) b odd)) o5 := bin_addL (by simp [line, L8])
  have bl : (bentRows (rowAt R a) s (rowAt R c) b odd).length = 10 := by simp [bentRows]
  have tl : (tabL R).length = m := by rw [tabL_len, S.len]
  have td : tabD R = .tup (tabL R) := rfl
  have cc : ∀ x10 x11 x12 x13 x14 x15, evE ⟨T, run T wf (d + 2), wf, t, none⟩ (.comp [11] (.n 11) (.of (.bin .Add (.var 8) (.lst (.cons (.bi Bi.tup (.cons (.var 9) .nil)) .nil)))) (.c (.bl true)) (.bin .Add (.bin .Add (.sl false true (.var 1) (.c .non) (.var 3)) (.tup (.cons (.var 11) .nil))) (.sl true false (.var 1) (.bin .Add (.var 3) (.c (.int 1))) (.c .non))))
      [some (.loc n), some (.d (tabD R)), some (.d (.int m)), some (.d (.int a)), some (.d (.int b)), some (.d (.int c)), some (.d (.tup (intL (rowAt R a)))), some (.d odd), some (.d (.lst L8)), some (.loc o4.length), x10, x11, x12, x13, x14, x15] o5 =
      .ok (flD ((bentRows (rowAt R a) s (rowAt R c) b odd).map fun x => D.tup (repl (tabL R) a x))) o5 := fun x10 x11 x12 x13 x14 x15 => by
    refine ev_compL ?_ (fun x hx => ?_) (by rw [bl]; show 10 < wf; omega) (by rw [bl]; simp [line])
    · simp only [ev_bin, ev_lst, ev_bi, ev_var, evA_cons, evA_nil, List.getElem?_cons_succ, List.getElem?_cons_zero, asW_w, bnd_ok, tp, l1', ad1, asW_flD]
    · have rv := repl_ev (xs := tabL R) (k := a) (x := x) (o := o5) (by rw [tl]; omega)
      have t1 : tupR [.d x] o5 = .ok (.w (.d (.tup [x]))) o5 := tupR_ok rfl (by simp [line])
      simp only [killAll, List.set_cons_succ, List.set_cons_zero, ev_bin, ev_sl, ev_tup, ev_c, ev_var, evA_cons, evA_nil, List.getElem?_cons_succ, List.getElem?_cons_zero, asW_w, bnd_ok, part_f, part_t, okO_some, td, sl_tup, t1, bin_add, rv]
  have m2 : opD2 (binD .Mult) (.d (.lst ((bentRows (rowAt R a) s (rowAt R c) b odd).map fun x => D.tup (repl (tabL R) a x)))) (.d (.int 2)) o5 = .ok (flD (List.replicate 2 ((bentRows (rowAt R a) s (rowAt R c) b odd).map fun x => D.tup (repl (tabL R) a x))).flatten) o5 := mul_lst_nat (k := 2) (by omega) (by rw [List.length_map, bl]; omega)
  rw [evB_cons]
  simp only [evS_set, ev_bin, cc, asW_flD, bnd_ok, ev_c, asW_w, m2, bndS_ok, thn_next, List.set_cons_succ, List.set_cons_zero]
  rw [evB_cons]
  have t0 : tupR [] o5 = .ok (.w (.d (.tup []))) o5 := tupR_ok rfl (by simp [line])
  have t1 : ∀ x : D, tupR [.d x] o5 = .ok (.w (.d (.tup [x]))) o5 := fun x => tupR_ok rfl (by simp [line])
  have ls2 : opDs (biD Bi.lst) [.d (.tup (tabL R))] o5 = .ok (flD (tabL R)) o5 := lst_tup _ _
  have c1 := cut_len (tabL R) none (some 1)
  have a2 : opD2 (binD .Add) (.d (.tup (tabL R))) (.d (.tup (cut (tabL R) none (some 1)))) o5 = .ok (.w (.d (.tup (tabL R ++ cut (tabL R) none (some 1))))) o5 := bin_addT (by simp only [line]; omega)
  have m33 : opD2 (binD .Mult) (.d (.tup [rowD (List.range 33)])) (.d (.int 33)) o5 = .ok (.w (.d (.tup (List.replicate 33 [rowD (List.range 33)]).flatten))) o5 := mul_tup_nat (k := 33) (by omega) (by simp)
  have l9 : ∀ x1 x2 x3 x4 x5 x6 x7 x8 x9 : D, asW (lstR [.d x1, .d x2, .d x3, .d x4, .d x5, .d x6, .d x7, .d x8, .d x9] o5) = .ok (.d (.lst [x1, x2, x3, x4, x5, x6, x7, x8, x9])) o5 := fun _ _ _ _ _ _ _ _ _ => asW_lst rfl (by simp [line])
  have ad2 : opD2 (binD .Add) (.d (.lst (List.replicate 2 ((bentRows (rowAt R a) s (rowAt R c) b odd).map fun x => D.tup (repl (tabL R) a x))).flatten)) (.d (.lst [.lst (tabL R), .tup (cut (tabL R) (some 1) none), .tup (tabL R ++ cut (tabL R) none (some 1)), .non, .tup [], .int 0, .dct [], .tup (tabL R).reverse, .tup (List.replicate 33 [rowD (List.range 33)]).flatten])) o5 =
      .ok (flD ((List.replicate 2 ((bentRows (rowAt R a) s (rowAt R c) b odd).map fun x => D.tup (repl (tabL R) a x))).flatten ++ [.lst (tabL R), .tup (cut (tabL R) (some 1) none), .tup (tabL R ++ cut (tabL R) none (some 1)), .non, .tup [], .int 0, .dct [], .tup (tabL R).reverse, .tup (List.replicate 33 [rowD (List.range 33)]).flatten])) o5 := bin_addL (by simp [line, bl])
  simp only [evS_set, ev_bin, ev_lst, ev_sl, ev_tup, ev_bi, ev_rev, ev_coll, ev_c, ev_var, evA_cons, evA_nil, List.getElem?_cons_succ, List.getElem?_cons_zero, asW_w, bnd_ok, part_f, part_t, okO_some, td, sl_tup, t0, t1, asW_flD, ls2, a2, rev_tup, coll_33, m33, l9, ad2, bndS_ok, thn_next, List.set_cons_succ, List.set_cons_zero]
  rw [evB_cons]
  let g1 : Nat → Nat → Int := fun x y => if (y : Int) > x then y else x
  let g2 : Nat → Nat → Int := fun x y => if (x : Int) - y < 0 then -((x : Int) - y) else (x : Int) - y
  have p1 := fun (σ : Sg) (hi : evA ⟨T, run T wf (d + 2), wf, t, none⟩ (.cons (.var 2) .nil) σ o5 = .ok [.d (.int m)] o5) => ev_tab2 (cx := ⟨T, run T wf (d + 2), wf, t, none⟩) (own := [14]) (own1 := [13]) (i := 14) (j := 13) (as := (.cons (.var 2) .nil)) (as1 := (.cons (.var 2) .nil)) (elt := .bi Bi.max (.cons (.var 14) (.cons (.var 13) .nil))) (m := m) (g := fun x y => .int (g1 x y)) hi (by omega) hw
  have p2 := fun (σ : Sg) (hi : evA ⟨T, run T wf (d + 2), wf, t, none⟩ (.cons (.var 2) .nil) σ o5 = .ok [.d (.int m)] o5) => ev_tab2 (cx := ⟨T, run T wf (d + 2), wf, t, none⟩) (own := [14]) (own1 := [13]) (i := 14) (j := 13) (as := (.cons (.var 2) .nil)) (as1 := (.cons (.var 2) .nil)) (elt := .bi Bi.abs (.cons (.bin .Sub (.var 14) (.var 13)) .nil)) (m := m) (g := fun x y => .int (g2 x y)) hi (by omega) hw
  rw [evS_set, p1 _ (by simp only [evA_cons, evA_nil, ev_var, List.getElem?_cons_succ, List.getElem?_cons_zero, asW_w, bnd_ok]) (fun x hx => by simp only [killAll, List.set_cons_succ, List.set_cons_zero, evA_cons, evA_nil, ev_var, List.getElem?_cons_succ, List.getElem?_cons_zero, asW_w, bnd_ok]) (fun x hx y hy => by
    simp only [killAll, List.set_cons_succ, List.set_cons_zero, ev_bi, evA_cons, evA_nil, ev_var, List.getElem?_cons_succ, List.getElem?_cons_zero, asW_w, bnd_ok, max_int, g1])]
  simp only [asW_w, bndS_ok, thn_next, List.set_cons_succ, List.set_cons_zero]
  rw [evB_cons, evS_set, p2 _ (by simp only [evA_cons, evA_nil, ev_var, List.getElem?_cons_succ, List.getElem?_cons_zero, asW_w, bnd_ok]) (fun x hx => by simp only [killAll, List.set_cons_succ, List.set_cons_zero, evA_cons, evA_nil, ev_var, List.getElem?_cons_succ, List.getElem?_cons_zero, asW_w, bnd_ok]) (fun x hx y hy => by
    simp only [killAll, List.set_cons_succ, List.set_cons_zero, ev_bi, ev_bin, evA_cons, evA_nil, ev_var, List.getElem?_cons_succ, List.getElem?_cons_zero, asW_w, bnd_ok, bin_sub, abs_int, g2])]
  simp only [asW_w, bndS_ok, thn_next, List.set_cons_succ, List.set_cons_zero]
  generalize hP1 : D.tup ((List.range m).map fun a => D.tup ((List.range m).map fun b => D.int (g1 a b))) = P1
  generalize hP2 : D.tup ((List.range m).map fun a => D.tup ((List.range m).map fun b => D.int (g2 a b))) = P2
  have k1 : knT P1 = true := by rw [← hP1]; exact kn_tab2
  have k2 : knT P2 = true := by rw [← hP2]; exact kn_tab2
  have l2 : asW (lstR [.d P1, .d P2] o5) = .ok (.d (.lst [P1, P2])) o5 := asW_lst rfl (by simp [line])
  have btl : (bentTabs R (rowAt R a) s (rowAt R c) a b odd P1 P2).length = 31 := by simp [bentTabs, bl]
  have ad3 : opD2 (binD .Add) (.d (.lst ((List.replicate 2 ((bentRows (rowAt R a) s (rowAt R c) b odd).map fun x => D.tup (repl (tabL R) a x))).flatten ++ [.lst (tabL R), .tup (cut (tabL R) (some 1) none), .tup (tabL R ++ cut (tabL R) none (some 1)), .non, .tup [], .int 0, .dct [], .tup (tabL R).reverse, .tup (List.replicate 33 [rowD (List.range 33)]).flatten]))) (.d (.lst [P1, P2])) o5 =
      .ok (flD (bentTabs R (rowAt R a) s (rowAt R c) a b odd P1 P2)) o5 := bin_addL (by simp [line, bl])
  obtain ⟨j, h6, hj, q6, e6⟩ := r_any (T := T) (wf := wf) (d := d) (t := none) (xs := bentTabs R (rowAt R a) s (rowAt R c) a b odd P1 P2) hd ha q4 hn5 (by rw [btl]; omega) (by rw [btl]; omega)
  refine ⟨_, h6, bentTabs_kn ho k1 k2 (List.getElem_mem hj), q6, ?_⟩
  rw [evB_cons]
  simp only [evS_ret, ev_call, ev_bin, ev_lst, ev_var, evA_cons, evA_nil, List.getElem?_cons_succ, List.getElem?_cons_zero, asW_w, bnd_ok, l2, ad3, asW_flD, e6, bndS_ok, thn_ret, retR_d, fin]
end
end Mi.N
end
section
set_option linter.all false
set_option Elab.async false
set_option maxHeartbeats 2000000
set_option autoImplicit false
namespace Mi.N
open PySem (Str Operator CmpOp PyData)
/-! ### repr -/
def OkP (x : D) (B : Nat) : Prop := (toPy x).showable = true ∧ (toPy x).shown.length ≤ B
theorem join_le {B : Nat} : ∀ ts : List Str, (∀ t ∈ ts, t.length ≤ B) → (Str.join ", " ts).length ≤ ts.length * (B + 2)
  | [], _ => Nat.zero_le _
  | [x], h => by
    show x.length ≤ _
    have := h x (List.mem_cons_self ..)
    simp only [List.length_cons, List.length_nil]
    omega
  | x :: y :: r, h => by
    have ih := join_le (y :: r) fun t ht => h t (List.mem_cons_of_mem _ ht)
    have hx := h x (List.mem_cons_self ..)
    show (x ++ ", " ++ Str.join ", " (y :: r)).length ≤ _
    have e2 : ((", " : String) : Str).length = 2 := rfl
    rw [PySem.strLen_append, PySem.strLen_append, e2]
    have e3 : (x :: y :: r).length * (B + 2) = (y :: r).length * (B + 2) + (B + 2) := by
      rw [List.length_cons, Nat.add_mul, Nat.one_mul]
    omega
theorem tuple_le {B : Nat} {ts : List Str} (h : ∀ t ∈ ts, t.length ≤ B) : (PySem.tupleText ts).length ≤ ts.length * (B + 2) + 3 := by
  have := join_le ts h
  unfold PySem.tupleText
  rw [PySem.strLen_append, PySem.strLen_append]
  have e1 : ((("(" : String) : Str)).length = 1 := rfl
  have e3 : (((if ts.length == 1 then ",)" else ")" : String) : Str)).length ≤ 2 := by split <;> decide
  rw [e1]
  omega
theorem shown_all {B : Nat} : ∀ xs : List D, (∀ x ∈ xs, OkP x B) → PyData.showableAll (toPys xs) = true ∧ (PyData.shownAll (toPys xs)).length = xs.length ∧ ∀ t ∈ PyData.shownAll (toPys xs), t.length ≤ B
  | [], _ => by simp [toPys, PyData.showableAll, PyData.shownAll]
  | x :: xs, h => by
    obtain ⟨h1, h2⟩ := h x (List.mem_cons_self ..)
    obtain ⟨i1, i2, i3⟩ := shown_all xs fun y hy => h y (List.mem_cons_of_mem _ hy)
    simp only [toPys, PyData.showableAll, PyData.shownAll, h1, i1, Bool.and_self, List.length_cons, i2, List.mem_cons, forall_eq_or_imp, true_and]
    exact ⟨h2, i3⟩
theorem okP_tup {xs : List D} {B n : Nat} (h : ∀ x ∈ xs, OkP x B) (hn : xs.length ≤ n) : OkP (.tup xs) (n * (B + 2) + 3) := by
  obtain ⟨h1, h2, h3⟩ := shown_all xs h
  refine ⟨?_, ?_⟩
  · simp only [toPy, PyData.showable, h1]
  · simp only [toPy, PyData.shown]
    have := tuple_le h3
    rw [h2] at this
    have : xs.length * (B + 2) ≤ n * (B + 2) := Nat.mul_le_mul_right _ hn
    omega
theorem okP_40 : ∀ k < 40, (toPy (.int (k : Nat))).showable = true ∧ (toPy (.int (k : Nat))).shown.length ≤ 2 := by decide +kernel
theorem okP_int {k : Nat} (h : k < 40) : OkP (.int (k : Nat)) 2 := okP_40 k h
theorem okP_row {r : List Nat} (h : ∀ k ∈ r, k < 40) (hl : r.length ≤ 40) : OkP (rowD r) 200 := by
  have := okP_tup (xs := intL r) (B := 2) (n := 40) (fun x hx => by
    obtain ⟨k, hk, rfl⟩ := List.mem_map.mp hx
    exact okP_int (h k hk)) (by rw [intL_len]; exact hl)
  exact ⟨this.1, Nat.le_trans this.2 (by decide)⟩
theorem okP_tab {m : Nat} {R : List (List Nat)} (S : Sq m R) (hm : m ≤ 32) : OkP (tabD R) 10000 := by
  have := okP_tup (xs := tabL R) (B := 200) (n := 40) (fun x hx => by
    obtain ⟨r, hr, rfl⟩ := List.mem_map.mp hx
    have q := S.row r hr
    exact okP_row (fun k hk => by have := q.2 k hk; omega) (by omega)) (by rw [tabL_len, S.len]; omega)
  exact ⟨this.1, Nat.le_trans this.2 (by decide)⟩
theorem repr_of {x : D} {B : Nat} (h : OkP x B) (hp : plain 60 x = true) (hB : B ≤ 1000000) : ∃ s, reprD x = some s := by
  unfold reprD
  have : (toPy x).shown.length ≤ line := Nat.le_trans h.2 (by unfold line; omega)
  rw [hp, h.1, decide_eq_true this]
  exact ⟨_, rfl⟩
theorem repr_ev {x : D} {s : Str} {o : List Ob} (h : reprD x = some s) : opDs (biD Bi.repr) [.d x] o = .ok (.w (.d (.str s))) o := by
  show okO ((reprD x).map fun s => Val.w (.d (.str s))) o = _
  rw [h] <;> rfl
theorem ne_str {cx : Cx} {s s' : Str} {o : List Ob} : cmpW cx .NotEq (.d (.str s)) (.d (.str s')) o = .ok (.w (.d (.bl (!(s == s'))))) o := Eq.trans rfl rfl
theorem repr_pair {m : Nat} {R : List (List Nat)} (S : Sq m R) (hm : m ≤ 32) : ∃ s, reprD (.tup [tabD R, .int m]) = some s := by
  have h := okP_tup (xs := [tabD R, .int m]) (B := 10000) (n := 2) (fun x hx => by
    simp only [List.mem_cons, List.not_mem_nil, or_false] at hx
    rcases hx with rfl | rfl
    · exact okP_tab S hm
    · have := okP_int (k := m) (by omega)
      exact ⟨this.1, Nat.le_trans this.2 (by decide)⟩) (by simp)
  refine repr_of h ?_ (by decide)
  show plain (59 + 1) (.tup [tabD R, .int m]) = true
  simp only [plain, plains, plain_tab, Bool.and_true]
theorem repr_strs : (reprD (.str sTable)).isSome = true ∧ (reprD (.str sOne)).isSome = true ∧ (reprD (.str sBacks)).isSome = true ∧ (reprD (.str sThrees)).isSome = true ∧ (reprD .non).isSome = true ∧ (reprD (.bl true)).isSome = true ∧ (reprD (.bl false)).isSome = true := by decide +kernel
theorem repr_bl (b : Bool) : ∃ s, reprD (.bl b) = some s := by
  cases b
  · exact Option.isSome_iff_exists.mp repr_strs.2.2.2.2.2.2
  · exact Option.isSome_iff_exists.mp repr_strs.2.2.2.2.2.1
/-- what is wrong can be told -/
theorem repr_fault (x : D) : ∃ s, reprD ((faultG x).getD .non) = some s := by
  have e1 := Option.isSome_iff_exists.mp repr_strs.1
  have e5 := Option.isSome_iff_exists.mp repr_strs.2.2.2.2.1
  cases x <;> first | exact e1 | skip
  rename_i rows
  by_cases q : 1 ≤ rows.length ∧ rows.length ≤ 32
  · have ef1 : faultG (.tup rows) = match badRow rows.length rows with
      | some i => some (.int i)
      | none => (faultN rows.length (rows.map rowOf)).map .str := if_pos q
    rw [ef1]
    cases hb : badRow rows.length rows with
    | some i =>
      unfold badRow at hb
      obtain ⟨j, hj, e⟩ := List.exists_of_findSome?_eq_some hb
      have hj := List.mem_range.mp hj
      split at e
      · cases e
      · cases e
        exact repr_of (okP_int (k := i) (by omega)) rfl (by decide)
    | none =>
      show ∃ s, reprD (((faultN rows.length (rows.map rowOf)).map D.str).getD .non) = some s
      unfold faultN
      split
      · split
        · split
          · exact e5
          · exact Option.isSome_iff_exists.mp repr_strs.2.2.2.1
        · exact Option.isSome_iff_exists.mp repr_strs.2.2.1
      · exact Option.isSome_iff_exists.mp repr_strs.2.1
  · have ef1 : faultG (.tup rows) = some (.str sTable) := if_neg q
    rw [ef1]
    exact e1
/-! ### the hand at first -/
def bHand : B :=
    (.cons (.set 1 (.comp [2] (.n 2) (.of (.sl false true (.var 0) (.c .non) (.c (.int 63)))) (.c (.bl true)) (.bi Bi.abs (.cons (.bi Bi.int (.cons (.var 2) .nil)) .nil))))
    (.cons (.ret (.lst (.cons (.var 1) (.cons (.c (.int 0)) (.cons (.c (.int 0)) (.cons (.bin .Add (.c (.int 347)) (.bin .Mult (.c (.int 227)) (.bi Bi.len (.cons (.var 1) .nil)))) (.cons (.c (.int 0)) .nil)))))))
    .nil))
theorem freezes_d (n0 : Nat) (o : List Ob) (k : Nat) : ∀ xs : List D, freezes n0 o k (xs.map .d) = some xs
  | [] => by simp [freezes]
  | x :: xs => by
    rw [List.map_cons]
    unfold freezes
    have e : freeze n0 o k (.d x) = some x := by unfold freeze; rfl
    rw [e, freezes_d n0 o k xs]
theorem retR_fl (n : Nat) (xs : List D) (o : List Ob) : retR n (.ret (.fl (xs.map .d)) o) = .ok (flD xs) (o.take n) := by
  show (match freezes n o 60 (xs.map .d) with | some xs => R.ok (flD xs) (o.take n) | none => .bad) = _
  rw [freezes_d]
theorem cut_map {α β : Type} (f : α → β) (xs : List α) (lo hi : Option Int) : cut (xs.map f) lo hi = (cut xs lo hi).map f := by
  unfold cut
  rw [List.length_map, List.map_take, List.map_drop]
section
variable {T : Tab} {wf d : Nat} {t : Option Thk} {cur : Option Ex} {o : List Ob} {m n : Nat} {R : List (List Nat)} {cal : Cal}
theorem r_hand {i : Nat} {ns : List Int} (h : Has T i ⟨1, 3, bHand⟩) (hl : ns.length ≤ 63) (hw : 70 < wf) : ∃ xs h', IsHand h' ∧ h' = .lst (xs.map .d) ∧ run T wf (d + 1) i t [.d (.lst (ns.map .int))] o = .ok (flD xs) o := by
  rw [run_has h rfl]
  let ab : Int → Int := fun i => if i < 0 then -i else i
  let ds := (cut ns none (some 63)).map ab
  have hlen : (cut ns none (some 63)).length ≤ 63 := Nat.le_trans (cut_len _ _ _) hl
  have c : evE ⟨T, run T wf d, wf, t, none⟩ (.comp [2] (.n 2) (.of (.sl false true (.var 0) (.c .non) (.c (.int 63)))) (.c (.bl true)) (.bi Bi.abs (.cons (.bi Bi.int (.cons (.var 2) .nil)) .nil))) [some (.d (.lst (ns.map .int))), none, none] o = .ok (flD (ds.map .int)) o := by
    have e : ds.map D.int = ((cut ns none (some 63)).map D.int).map fun x => match x with | .int i => .int (ab i) | x => x := by
      rw [List.map_map, List.map_map]
      rfl
    rw [e]
    have sl : slR (.d (.lst (ns.map .int))) none (some 63) o = .ok (flD ((cut ns none (some 63)).map .int)) o := by
      rw [← cut_map] <;> rfl
    refine ev_compL ?_ (fun x hx => ?_) (by rw [List.length_map]; show _ < wf; omega) (by rw [List.length_map]; unfold line; omega)
    · simp only [ev_sl, ev_var, ev_c, List.getElem?_cons_succ, List.getElem?_cons_zero, asW_w, bnd_ok, part_f, part_t, okO_some, sl, asW_flD]
    · obtain ⟨z, _, rfl⟩ := List.mem_map.mp hx
      simp only [killAll, List.set_cons_succ, List.set_cons_zero, ev_bi, ev_var, evA_cons, evA_nil, List.getElem?_cons_succ, List.getElem?_cons_zero, asW_w, bnd_ok, int_int, abs_int]
      rfl
  let xs : List D := [.lst (ds.map .int), .int (0 : Nat), .int 0, .int (347 + 227 * ((ds.map D.int).length : Int)), .int 0]
  refine ⟨xs, _, ⟨ds, 0, 0, 347 + 227 * ((ds.map D.int).length : Int), 0, rfl⟩, rfl, ?_⟩
  have ml : lstR [.d (.lst (ds.map .int)), .d (.int 0), .d (.int 0), .d (.int (347 + 227 * ((ds.map D.int).length : Int))), .d (.int 0)] o = .ok (.fl (xs.map .d)) o := by
    unfold lstR
    rw [if_pos (by simp [line])]
    rfl
  unfold bHand
  simp only [List.map_cons, List.map_nil, List.replicate, List.cons_append, List.nil_append, Nat.reduceSub, List.append_eq]
  rw [evB_cons]
  simp only [evS_set, c, asW_flD, bndS_ok, thn_next, List.set_cons_succ, List.set_cons_zero]
  rw [evB_cons]
  simp only [evS_ret, ev_lst, ev_bin, ev_bi, ev_c, ev_var, evA_cons, evA_nil, List.getElem?_cons_succ, List.getElem?_cons_zero, asW_w, bnd_ok, len_lst, bin_mult (mulOk_l (i := 227) (j := ((ds.map D.int).length : Int)) (by decide) (by decide)), bin_add, ml, bndS_ok, thn_ret]
  rw [retR_fl, takeL]
/-! ### a table drawn -/
def bTable (iRing iFlips iPairs iDraw iAny iCalled iNames : Nat) : B :=
    (.cons (.set 1 (.call iRing (.cons (.c (.int 2)) .nil)))
    (.cons (.set 2 (.lst (.cons (.call iRing (.cons (.bin .Add (.c (.int 1)) (.call iDraw (.cons (.var 0) (.cons (.c (.int 8)) .nil)))) .nil)) (.cons (.call iFlips (.cons (.c (.int 3)) (.cons (.c (.int 0)) .nil))) (.cons (.call iFlips (.cons (.c (.int 4)) (.cons (.c (.int 0)) .nil))) (.cons (.call iFlips (.cons (.c (.int 4)) (.cons (.c (.int 2)) .nil))) .nil))))))
    (.cons (.set 2 (.bin .Add (.var 2) (.lst (.cons (.call iPairs (.cons (.var 1) (.cons (.var 1) .nil))) (.cons (.call iPairs (.cons (.var 1) (.cons (.call iRing (.cons (.c (.int 4)) .nil)) .nil))) (.cons (.call iPairs (.cons (.var 1) (.cons (.call iPairs (.cons (.var 1) (.cons (.var 1) .nil))) .nil))) .nil))))))
    (.cons (.set 2 (.bin .Add (.var 2) (.lst (.cons (.call iFlips (.cons (.c (.int 2)) (.cons (.c (.int 0)) .nil))) .nil))))
    (.cons (.set 3 (.call iAny (.cons (.var 0) (.cons (.var 2) .nil))))
    (.cons (.ret (.call iCalled (.cons (.var 3) (.cons (.call iNames (.cons (.var 0) (.cons (.bi Bi.len (.cons (.var 3) .nil)) .nil))) .nil))))
    .nil))))))
def flipsR (m : Nat) (hf : Int) : List (List Nat) := (List.range (2 * m)).map fun a => (List.range (2 * m)).map fun b => (cellF m hf a b).toNat
def flipsOk (m : Nat) (hf : Int) : Bool := (List.range (2 * m)).all fun a => (List.range (2 * m)).all fun b => decide (0 ≤ cellF m hf a b)
theorem flips_tab {m : Nat} {hf : Int} (h : flipsOk m hf = true) : D.tup (flipRows m hf (2 * m)) = tabD (flipsR m hf) := by
  unfold flipsR
  rw [← tabD_of (2 * m) (2 * m) fun a b => (cellF m hf a b).toNat]
  unfold flipRows flipRow
  congr 1
  apply List.map_congr_left
  intro a ha
  congr 1
  apply List.map_congr_left
  intro b hb
  have := of_decide_eq_true (List.all_eq_true.mp (List.all_eq_true.mp h a ha) b hb)
  rw [Int.toNat_of_nonneg this]
def two : List (List Nat) := ringR 2
def tabs (k : Nat) : List (Nat × List (List Nat)) :=
  [(1 + k, ringR (1 + k)), (6, flipsR 3 0), (8, flipsR 4 0), (8, flipsR 4 2), (4, pairR two two 2 2), (8, pairR two (ringR 4) 2 4), (8, pairR two (pairR two two 2 2) 2 4), (4, flipsR 2 0)]
def goodB (m : Nat) (R : List (List Nat)) : Bool := decide (1 ≤ m) && decide (m ≤ 8) && decide (R.length = m) && R.all (fun r => decide (r.length = m) && r.all fun k => decide (k < m)) && (faultN m R).isNone
theorem good_of {m : Nat} {R : List (List Nat)} (h : goodB m R = true) : Good m R ∧ m ≤ 8 := by
  unfold goodB at h
  simp only [Bool.and_eq_true, decide_eq_true_eq, List.all_eq_true, Option.isNone_iff_eq_none] at h
  obtain ⟨⟨⟨⟨h1, h2⟩, h3⟩, h4⟩, h5⟩ := h
  exact ⟨⟨h1, by omega, ⟨h3, h4⟩, h5⟩, h2⟩
theorem tabs_good : ∀ k < 8, ((tabs k).all fun q => goodB q.1 q.2) = true := by decide +kernel
theorem flips_ok : (flipsOk 3 0 && flipsOk 4 0 && flipsOk 4 2 && flipsOk 2 0) = true := by decide +kernel
end
end Mi.N
end
section
set_option linter.all false
set_option Elab.async false
set_option maxHeartbeats 2000000
set_option autoImplicit false
namespace Mi.N
open PySem (Str Operator CmpOp PyData)
theorem three_good : (goodB 2 two && goodB 4 (ringR 4) && goodB 4 (pairR two two 2 2)) = true := by decide +kernel
section
variable {T : Tab} {wf d : Nat} {t : Option Thk} {cur : Option Ex} {o : List Ob} {m n : Nat} {R : List (List Nat)} {cal : Cal}
theorem r_table {i iRing iFlips iPairs iDraw iAny iCalled iNames : Nat} {h : Ob} (hr : Has T iRing ⟨1, 3, bRing⟩) (hf : Has T iFlips ⟨2, 9, bFlips⟩) (hp : Has T iPairs ⟨2, 8, bPairs⟩) (hd : Has T iDraw ⟨2, 5, bDraw⟩) (ha : Has T iAny ⟨2, 2, bAny iDraw⟩)
    (hc : Has T iCalled ⟨2, 7, bCalled⟩) (hnm : Has T iNames ⟨2, 4, bNames iDraw⟩) (hi : Has T i ⟨1, 4, bTable iRing iFlips iPairs iDraw iAny iCalled iNames⟩) (hh : IsHand h) (hn : o[n]? = some h) (hw : 70 < wf) :
    ∃ (m : Nat) (R : List (List Nat)) (h' : Ob), Good m R ∧ m ≤ 8 ∧ IsHand h' ∧ run T wf (d + 3) i t [.loc n] o = .ok (.w (.d (tabD R))) (o.set n h') := by
  have tg := three_good
  rw [Bool.and_eq_true, Bool.and_eq_true] at tg
  have g2 := (good_of tg.1.1).1
  have g4 := (good_of tg.1.2).1
  have gp := (good_of tg.2).1
  have fo := flips_ok
  rw [Bool.and_eq_true, Bool.and_eq_true, Bool.and_eq_true] at fo
  obtain ⟨k, h1, hk, q1, e1⟩ := r_draw (T := T) (wf := wf) (d := d + 1) (t := none) (m := 8) hd hh hn (by omega) (by omega)
  have e1' : run T wf (d + 2) iDraw none [.loc n, .d (.int 8)] o = .ok (.w (.d (.int k))) (o.set n h1) := e1
  have hn1 : (o.set n h1)[n]? = some h1 := set_get hn
  have r2 : ∀ o : List Ob, run T wf (d + 2) iRing none [.d (.int 2)] o = .ok (.w (.d (tabD two))) o := fun o => r_ring (d := d + 1) (m := 2) hr (by omega) (by omega) (by omega)
  have r4 : ∀ o : List Ob, run T wf (d + 2) iRing none [.d (.int 4)] o = .ok (.w (.d (tabD (ringR 4)))) o := fun o => r_ring (d := d + 1) (m := 4) hr (by omega) (by omega) (by omega)
  have ek : (1 : Int) + (k : Int) = ((1 + k : Nat) : Int) := by omega
  have rk : ∀ o : List Ob, run T wf (d + 2) iRing none [.d (.int (1 + k : Nat))] o = .ok (.w (.d (tabD (ringR (1 + k))))) o := fun o => r_ring (d := d + 1) (m := 1 + k) hr (by omega) (by omega) (by omega)
  have f30 : ∀ o : List Ob, run T wf (d + 2) iFlips none [.d (.int 3), .d (.int 0)] o = .ok (.w (.d (tabD (flipsR 3 0)))) o := fun o => by
    rw [← flips_tab fo.1.1.1]
    exact r_flips (d := d + 1) (m := 3) (hf := 0) hf (by omega) (by omega) (by omega)
  have f40 : ∀ o : List Ob, run T wf (d + 2) iFlips none [.d (.int 4), .d (.int 0)] o = .ok (.w (.d (tabD (flipsR 4 0)))) o := fun o => by
    rw [← flips_tab fo.1.1.2]
    exact r_flips (d := d + 1) (m := 4) (hf := 0) hf (by omega) (by omega) (by omega)
  have f42 : ∀ o : List Ob, run T wf (d + 2) iFlips none [.d (.int 4), .d (.int 2)] o = .ok (.w (.d (tabD (flipsR 4 2)))) o := fun o => by
    rw [← flips_tab fo.1.2]
    exact r_flips (d := d + 1) (m := 4) (hf := 2) hf (by omega) (by omega) (by omega)
  have f20 : ∀ o : List Ob, run T wf (d + 2) iFlips none [.d (.int 2), .d (.int 0)] o = .ok (.w (.d (tabD (flipsR 2 0)))) o := fun o => by
    rw [← flips_tab fo.2]
    exact r_flips (d := d + 1) (m := 2) (hf := 0) hf (by omega) (by omega) (by omega)
  have p22 : ∀ o : List Ob, run T wf (d + 2) iPairs none [.d (tabD two), .d (tabD two)] o = .ok (.w (.d (tabD (pairR two two 2 2)))) o := fun o => r_pairs (d := d + 1) hp g2.sq g2.sq (by omega) (by omega) (by omega) hw
  have p24 : ∀ o : List Ob, run T wf (d + 2) iPairs none [.d (tabD two), .d (tabD (ringR 4))] o = .ok (.w (.d (tabD (pairR two (ringR 4) 2 4)))) o := fun o => r_pairs (d := d + 1) hp g2.sq g4.sq (by omega) (by omega) (by omega) hw
  have p222 : ∀ o : List Ob, run T wf (d + 2) iPairs none [.d (tabD two), .d (tabD (pairR two two 2 2))] o = .ok (.w (.d (tabD (pairR two (pairR two two 2 2) 2 4)))) o := fun o => r_pairs (d := d + 1) hp g2.sq gp.sq (by omega) (by omega) (by omega) hw
  obtain ⟨L, hLd⟩ : ∃ L : List D, L = (tabs k).map fun q => tabD q.2 := ⟨_, rfl⟩
  have hL : L.length = 8 := by rw [hLd] <;> rfl
  obtain ⟨j, h2, hj, q2, e2⟩ := r_any (T := T) (wf := wf) (d := d) (t := none) (xs := L) hd ha q1 hn1 (by rw [hL]; omega) (by rw [hL]; omega)
  rw [List.set_set] at e2
  have hj8 : j < (tabs k).length := by rw [hL] at hj; exact hj
  have gj := good_of (List.all_eq_true.mp (tabs_good k hk) _ (List.getElem_mem hj8))
  have eL : L[j] = tabD (tabs k)[j].2 := by simp only [hLd, List.getElem_map]
  rw [eL] at e2
  generalize (tabs k)[j].1 = m at gj
  generalize (tabs k)[j].2 = R at gj e2
  obtain ⟨g, m8⟩ := gj
  obtain ⟨p, h3, N, q3, e3⟩ := r_names (T := T) (wf := wf) (d := d) (t := none) (m := m) hd hnm q2 (set_get hn) (by have := g.lo; omega) (by omega) hw
  rw [List.set_set] at e3
  have ec := r_called (T := T) (wf := wf) (d := d + 1) (t := none) (o := o.set n h3) hc g.sq N (by have := g.lo; omega) (by omega) hw
  refine ⟨m, calledR p R m, h3, g.called N, m8, q3, ?_⟩
  rw [run_has hi rfl]
  have l4 : ∀ x1 x2 x3 x4 : D, ∀ o, asW (lstR [.d x1, .d x2, .d x3, .d x4] o) = .ok (.d (.lst [x1, x2, x3, x4])) o := fun _ _ _ _ _ => asW_lst rfl (by simp [line])
  have l3 : ∀ x1 x2 x3 : D, ∀ o, asW (lstR [.d x1, .d x2, .d x3] o) = .ok (.d (.lst [x1, x2, x3])) o := fun _ _ _ _ => asW_lst rfl (by simp [line])
  have l1 : ∀ x1 : D, ∀ o, asW (lstR [.d x1] o) = .ok (.d (.lst [x1])) o := fun _ _ => asW_lst rfl (by simp [line])
  have a1 : ∀ x1 x2 x3 x4 y1 y2 y3 : D, ∀ o, opD2 (binD .Add) (.d (.lst [x1, x2, x3, x4])) (.d (.lst [y1, y2, y3])) o = .ok (flD [x1, x2, x3, x4, y1, y2, y3]) o := fun _ _ _ _ _ _ _ _ => bin_addL (by simp [line])
  have a2 : ∀ x1 x2 x3 x4 y1 y2 y3 z : D, ∀ o, opD2 (binD .Add) (.d (.lst [x1, x2, x3, x4, y1, y2, y3])) (.d (.lst [z])) o = .ok (flD [x1, x2, x3, x4, y1, y2, y3, z]) o := fun _ _ _ _ _ _ _ _ _ => bin_addL (by simp [line])
  have eLL : [tabD (ringR (1 + k)), tabD (flipsR 3 0), tabD (flipsR 4 0), tabD (flipsR 4 2), tabD (pairR two two 2 2), tabD (pairR two (ringR 4) 2 4), tabD (pairR two (pairR two two 2 2) 2 4), tabD (flipsR 2 0)] = L := by rw [hLd] <;> rfl
  unfold bTable
  simp only [List.map_cons, List.map_nil, List.replicate, List.cons_append, List.nil_append, Nat.reduceSub, List.append_eq]
  rw [evB_cons]
  simp only [evS_set, ev_call, ev_c, evA_cons, evA_nil, asW_w, bnd_ok, r2, bndS_ok, thn_next, List.set_cons_succ, List.set_cons_zero]
  rw [evB_cons]
  simp only [evS_set, ev_lst, ev_call, ev_bin, ev_c, ev_var, evA_cons, evA_nil, List.getElem?_cons_succ, List.getElem?_cons_zero, asW_w, bnd_ok, e1', bin_add, ek, rk, f30, f40, f42, l4, bndS_ok, thn_next, List.set_cons_succ, List.set_cons_zero]
  rw [evB_cons]
  simp only [evS_set, ev_lst, ev_call, ev_bin, ev_c, ev_var, evA_cons, evA_nil, List.getElem?_cons_succ, List.getElem?_cons_zero, asW_w, bnd_ok, p22, r4, p24, p222, l3, a1, asW_flD, bndS_ok, thn_next, List.set_cons_succ, List.set_cons_zero]
  rw [evB_cons]
  simp only [evS_set, ev_lst, ev_call, ev_bin, ev_c, ev_var, evA_cons, evA_nil, List.getElem?_cons_succ, List.getElem?_cons_zero, asW_w, bnd_ok, f20, l1, a2, asW_flD, eLL, bndS_ok, thn_next, List.set_cons_succ, List.set_cons_zero]
  rw [evB_cons]
  simp only [evS_set, ev_call, ev_var, evA_cons, evA_nil, List.getElem?_cons_succ, List.getElem?_cons_zero, asW_w, bnd_ok, e2, bndS_ok, thn_next, List.set_cons_succ, List.set_cons_zero]
  rw [evB_cons]
  have hl3 : (o.set n h3).length = o.length := List.length_set
  simp only [evS_ret, ev_call, ev_bi, ev_var, evA_cons, evA_nil, List.getElem?_cons_succ, List.getElem?_cons_zero, asW_w, bnd_ok, len_tab g.sq, e3, ec, bndS_ok, thn_ret, retR_d]
  rw [← hl3, takeL]
end
end Mi.N
end
section
set_option linter.all false
set_option Elab.async false
set_option maxHeartbeats 2000000
set_option autoImplicit false
namespace Mi.N
open PySem (Str Operator CmpOp PyData)
/-- what a law's table of functions holds -/
structure K01T (T : Tab) : Prop where
  G : Grp T
  hs : T.sub = subB
  c0 : ∃ i m' x', T.cl 0 = some ⟨i, some 4, m', x'⟩
  c21 : T.cl 21 = some ⟨none, none, false, some []⟩
  h4 : Has T 4 ⟨2, 2, bEq⟩
  h6 : Has T 6 ⟨2, 7, bRenBy⟩
  h7 : Has T 7 ⟨2, 3, bIsNames⟩
  h8 : Has T 8 ⟨2, 2, bRenamed⟩
  h9 : Has T 9 ⟨1, 1, bIsTable⟩
  h10 : Has T 10 ⟨1, 3, bHand⟩
  h11 : Has T 11 ⟨2, 5, bDraw⟩
  h12 : Has T 12 ⟨2, 2, bAny 11⟩
  h13 : Has T 13 ⟨1, 3, bRing⟩
  h14 : Has T 14 ⟨2, 9, bFlips⟩
  h15 : Has T 15 ⟨2, 8, bPairs⟩
  h16 : Has T 16 ⟨2, 4, bNames 11⟩
  h17 : Has T 17 ⟨2, 7, bCalled⟩
  h18 : Has T 18 ⟨1, 4, bTable 13 14 15 11 12 17 16⟩
  h19 : Has T 19 ⟨2, 3, bIsRow⟩
  h20 : Has T 20 ⟨1, 8, bFault 19⟩
  h21 : Has T 21 ⟨1, 2, bMade⟩
  h22 : Has T 22 ⟨2, 16, bBent 11 12⟩
  h23 : Has T 23 ⟨0, 2, bRefused⟩
theorem fault_non (x : D) : (match (faultG x).getD .non with | .non => true | _ => false) = (faultG x).isNone := by
  cases h : faultG x with
  | none => rfl
  | some p =>
    cases x <;> first | (cases h; rfl) | skip
    rename_i rows
    by_cases q : 1 ≤ rows.length ∧ rows.length ≤ 32
    · have ef1 : faultG (.tup rows) = match badRow rows.length rows with
        | some i => some (.int i)
        | none => (faultN rows.length (rows.map rowOf)).map .str := if_pos q
      rw [ef1] at h
      cases hb : badRow rows.length rows with
      | some i => rw [hb] at h; cases h; rfl
      | none =>
        rw [hb] at h
        cases hf : faultN rows.length (rows.map rowOf) with
        | none => rw [hf] at h; cases h
        | some s => rw [hf] at h; cases h; rfl
    · have ef1 : faultG (.tup rows) = some (.str sTable) := if_neg q
      rw [ef1] at h
      cases h
      rfl
section
variable {T : Tab} {wf d : Nat} {t : Option Thk} {cur : Option Ex} {o : List Ob} {m n : Nat} {R R' : List (List Nat)} {m' : Nat}
theorem grp_eq (K : K01T T) : cmpW ⟨T, run T wf (d + 1), wf, t, cur⟩ .Eq (.d (groupV m R)) (.d (groupV m' R')) o = .ok (.w (.d (.bl (decide (R = R'))))) o :=
  cmp_own (neg := false) K.c0 (r_eq K.h4) (fun n h => by cases h)
theorem grp_ne (K : K01T T) : cmpW ⟨T, run T wf (d + 1), wf, t, cur⟩ .NotEq (.d (groupV m R)) (.d (groupV m' R')) o = .ok (.w (.d (.bl (!decide (R = R'))))) o :=
  cmp_own (neg := true) K.c0 (r_eq K.h4) (fun n h => by cases h)
theorem grp_tab (K : K01T T) : cmpW ⟨T, run T wf (d + 1), wf, t, cur⟩ .Eq (.d (groupV m R)) (.d (tabD R')) o = .ok (.w (.d (.bl false))) o :=
  cmp_own (neg := false) K.c0 (r_eqNo K.h4 rfl) (fun n h => by cases h)
theorem nine_ok : (decide ((ringR 9).length = 9) && (ringR 9).all (fun r => decide (r.length = 9) && r.all fun k => decide (k < 9)) && (faultN 9 (ringR 9)).isNone) = true := by decide +kernel
theorem nine : Good 9 (ringR 9) := by
  have h := nine_ok
  simp only [Bool.and_eq_true, decide_eq_true_eq, List.all_eq_true, Option.isNone_iff_eq_none] at h
  exact ⟨by omega, by omega, ⟨h.1.1, h.1.2⟩, h.2⟩
def σ1 (sc tn : Option W) (m : Nat) (R : List (List Nat)) (x6 x7 x8 x9 x10 x11 x12 x13 : Option W) : Sg :=
  [sc, some (.loc 1), tn, some (.d (tabD R)), some (.d (groupV m R)), some (.d (.int m)), x6, x7, x8, x9, x10, x11, x12, x13]
/-- the first looks -/
theorem look1 (K : K01T T) (g : Good m R) (hw : 70 < wf) {sc tn x6 x7 x8 x9 x10 x11 x12 x13 : Option W} :
    evE ⟨T, run T wf (d + 10), wf, t, none⟩ (.or (.cmp .NotEq (.bi Bi.repr (.cons (.tup (.cons (.attr (.var 4) 1) (.cons (.attr (.var 4) 2) .nil))) .nil)) (.bi Bi.repr (.cons (.tup (.cons (.var 3) (.cons (.var 5) .nil))) .nil))) (.or (.cmp .NotEq (.var 4) (.mk 0 (.cons (.var 3) .nil))) (.cmp .Eq (.var 4) (.var 3))))
      (σ1 sc tn m R x6 x7 x8 x9 x10 x11 x12 x13) o = .ok (.w (.d (.bl false))) o := by
  obtain ⟨s, hs⟩ := repr_pair g.sq g.hi
  have t2 : tupR [.d (tabD R), .d (.int m)] o = .ok (.w (.d (.tup [tabD R, .int m]))) o := tupR_ok rfl (by simp [line])
  have mk := mk_good (T := T) (wf := wf) (d := d + 7) (t := t) (cur := none) (o := o) K.G g (by omega)
  unfold σ1
  simp only [ev_or, ev_cmp, ev_bi, ev_tup, ev_attr, ev_mk, ev_var, evA_cons, evA_nil, List.getElem?_cons_succ, List.getElem?_cons_zero, asW_w, bnd_ok, at1, at2, Option.map_some, okO_some, t2, repr_ev hs, ne_str, beq_self_eq_true, Bool.not_true, asT_bl, Bool.false_eq_true, if_false, mk, grp_ne K, decide_true, grp_tab K, wd_eq]
theorem look2 (K : K01T T) (g : Good m R) (h8 : m ≤ 8) (hw : 70 < wf) {sc tn x6 x7 x8 x9 x10 x11 x12 x13 : Option W} :
    evE ⟨T, run T wf (d + 10), wf, t, none⟩ (.or (.cmp .NotEq (.bi Bi.lst (.cons (.attr (.var 4) 3) .nil)) (.comp [6] (.n 6) (.of (.var 3)) (.c (.bl true)) (.mth Mt.index (.var 6) (.cons (.c (.int 0)) .nil)))) (.cmp .Eq (.var 4) (.mk 0 (.cons (.call 13 (.cons (.c (.int 9)) .nil)) .nil))))
      (σ1 sc tn m R x6 x7 x8 x9 x10 x11 x12 x13) o = .ok (.w (.d (.bl false))) o := by
  have hb : ∀ r ∈ R, 0 ∈ r := fun r hr => by
    obtain ⟨i, hi, rfl⟩ := mem_rowAt hr
    rw [g.sq.len] at hi
    obtain ⟨_, h2, _⟩ := (faultN_none g.sq g.lo).mp g.ok
    obtain ⟨j, hj, e⟩ := h2 i hi
    rw [← e]
    exact nth_mem (by rw [g.sq.getl hi]; exact hj)
  have cc : evE ⟨T, run T wf (d + 10), wf, t, none⟩ (.comp [6] (.n 6) (.of (.var 3)) (.c (.bl true)) (.mth Mt.index (.var 6) (.cons (.c (.int 0)) .nil))) (σ1 sc tn m R x6 x7 x8 x9 x10 x11 x12 x13) o =
      .ok (flD (intL (R.map ix0))) o := by
    have e : intL (R.map ix0) = (tabL R).map fun x => .int (ix0 (rowOf x) : Nat) := by
      unfold intL tabL
      rw [List.map_map, List.map_map]
      apply List.map_congr_left
      intro r hr
      show D.int (ix0 r : Nat) = .int (ix0 (rowOf (rowD r)) : Nat)
      rw [rowOf_row]
    rw [e]
    refine ev_compT (by simp only [σ1, ev_var, List.getElem?_cons_succ, List.getElem?_cons_zero, asW_w]; rfl) (fun x hx => ?_) (by show (tabL R).length < wf; rw [tabL_len, g.sq.len]; omega) (by rw [tabL_len, g.sq.len]; unfold line; omega)
    obtain ⟨r, hr, rfl⟩ := List.mem_map.mp hx
    have e2 := mth_index (o := o) (hb r hr)
    rw [rowOf_row]
    have kd : kindW o (.d (rowD r)) = some false := rfl
    simp only [σ1, killAll, List.set_cons_succ, List.set_cons_zero, ev_mth, ev_c, ev_var, evA_cons, evA_nil, List.getElem?_cons_succ, List.getElem?_cons_zero, asW_w, bnd_ok, kd, e2]
  have r9 : run T wf (d + 10) 13 none [.d (.int 9)] o = .ok (.w (.d (tabD (ringR 9)))) o := r_ring (d := d + 9) (m := 9) K.h13 (by omega) (by omega) (by omega)
  have mk := mk_good (T := T) (wf := wf) (d := d + 7) (t := t) (cur := none) (o := o) K.G nine (by omega)
  have ne : decide (R = ringR 9) = false := decide_eq_false fun e => by
    have := g.sq.len
    rw [e, nine.sq.len] at this
    omega
  have e1 : cmpW ⟨T, run T wf (d + 10), wf, t, none⟩ .NotEq (.d (.lst (intL (R.map ix0)))) (.d (.lst (intL (R.map ix0)))) o = .ok (.w (.d (.bl false))) o := by
    rw [cmp_ne (plain_lint _ _) (plain_lint _ _) (fun s h => by cases h)]
    have : eqD (.lst (intL (R.map ix0))) (.lst (intL (R.map ix0))) = true := (eqDs_int _ _).trans (decide_eq_true rfl)
    rw [this] <;> rfl
  have a4 : ∀ {cx}, evE cx (.var 4) (σ1 sc tn m R x6 x7 x8 x9 x10 x11 x12 x13) o = .ok (.w (.d (groupV m R))) o := by
    intro cx
    simp only [σ1, ev_var, List.getElem?_cons_succ, List.getElem?_cons_zero]
  simp only [ev_or, ev_cmp, ev_bi, ev_attr, ev_mk, ev_call, ev_c, a4, evA_cons, evA_nil, asW_w, bnd_ok, at3, Option.map_some, okO_some, lst_row, asW_flD, cc, e1, asT_bl, Bool.false_eq_true, if_false, r9, mk, grp_eq K, ne, wd_eq]
/-! ### what is drawn eight times -/
theorem compG_inv {step : Item → List Ob → Mi.R (List W)} {f : Itr} {xs : List Item} {P : D → Prop} {I : List Ob → Prop} (hs : Src f xs) (h : ∀ (j : Nat) (x : Item) (o : List Ob), xs[j]? = some x → I o → ∃ (y : D) (o' : List Ob), P y ∧ I o' ∧ step x o = .ok [.d y] o') : ∀ (fuel i : Nat) (acc : List W) (o : List Ob), I o →
    i ≤ xs.length → acc.length + (xs.length - i) ≤ line → xs.length - i < fuel → ∃ (ys : List D) (o' : List Ob), (∀ y ∈ ys, P y) ∧ ys.length = xs.length - i ∧ I o' ∧ compG step f fuel i acc o = .ok (acc ++ ys.map .d) o'
  | 0, i, acc, o, hI, hi, hl, hf => absurd hf (Nat.not_lt_zero _)
  | fuel + 1, i, acc, o, hI, hi, hl, hf => by
    unfold compG
    rw [hs o i]
    cases q : xs[i]? with
    | none =>
      have e : i = xs.length := Nat.le_antisymm hi (List.getElem?_eq_none_iff.mp q)
      exact ⟨[], o, fun y hy => (by cases hy), by simp [e], hI, by simp⟩
    | some x =>
      obtain ⟨hi2, e⟩ := List.getElem?_eq_some_iff.mp q
      obtain ⟨y, o1, py, i1, e1⟩ := h i x o q hI
      obtain ⟨ys, o2, pys, ly, i2, e2⟩ := compG_inv hs h fuel (i + 1) (acc ++ [.d y]) o1 i1 hi2 (by simp only [List.length_append, List.length_cons, List.length_nil]; omega) (by omega)
      refine ⟨y :: ys, o2, fun z hz => ?_, by simp only [List.length_cons]; omega, i2, ?_⟩
      · cases hz with
        | head => exact py
        | tail _ q => exact pys z q
      · dsimp only
        rw [e1]
        dsimp only
        rw [if_pos (by simp only [List.length_cons, List.length_nil]; omega), e2, List.append_assoc]
        rfl
/-- the store: the table, the hand -/
def Two (q : Str) (o : List Ob) : Prop := ∃ h, IsHand h ∧ o = [.tab q, h]
theorem Two.set {q : Str} {h h' : Ob} {o : List Ob} (e : o = [.tab q, h]) : o.set 1 h' = [.tab q, h'] := by rw [e] <;> rfl
theorem bents_ev (K : K01T T) (g : Good m R) (hw : 70 < wf) {q : Str} (ho : Two q o) {sc tn x6 x7 x8 x9 x10 x11 x12 x13 : Option W} :
    ∃ (xs : List D) (o' : List Ob), (∀ x ∈ xs, knT x = true) ∧ xs.length = 8 ∧ Two q o' ∧ evE ⟨T, run T wf (d + 10), wf, t, none⟩ (.comp [8] (.n 8) (.range (.cons (.c (.int 8)) .nil)) (.c (.bl true)) (.call 22 (.cons (.var 1) (.cons (.var 3) .nil))))
      (σ1 sc tn m R x6 x7 x8 x9 x10 x11 x12 x13) o = .ok (flD xs) o' := by
  have r8 : evI ⟨T, run T wf (d + 10), wf, t, none⟩ (.range (.cons (.c (.int 8)) .nil)) (σ1 sc tn m R x6 x7 x8 x9 x10 x11 x12 x13) o = .ok (rngI 0 8) o := evI_rng (n := 8) (by simp only [evA_cons, evA_nil, ev_c, asW_w, bnd_ok]; rfl) (by decide)
  obtain ⟨ys, o', py, ly, iy, e⟩ := compG_inv (step := fun x o => match bindT (.n 8) x (killAll (σ1 sc tn m R x6 x7 x8 x9 x10 x11 x12 x13) [8]) with
            | some σ1 => bnd (asT (evE ⟨T, run T wf (d + 10), wf, t, none⟩ (.c (.bl true)) σ1 o)) fun k o2 => if k then bnd (asW (evE ⟨T, run T wf (d + 10), wf, t, none⟩ (.call 22 (.cons (.var 1) (.cons (.var 3) .nil))) σ1 o2)) fun w o3 => .ok [w] (keep o.length w o3) else .ok [] (o2.take o.length)
            | none => .bad) (P := fun x => knT x = true) (I := Two q) (src_rng 0 8) (fun j x o hx hI => by
      obtain ⟨h, hh, rfl⟩ := hI
      obtain ⟨y, h', ky, kh, e⟩ := r_bent (T := T) (wf := wf) (d := d + 7) (t := none) (n := 1) (o := [.tab q, h]) K.h11 K.h12 K.h22 hh rfl g.sq g.lo g.hi hw
      refine ⟨y, [.tab q, h'], ky, ⟨h', kh, rfl⟩, ?_⟩
      rw [List.getElem?_map] at hx
      cases z : (List.range 8)[j]? with
      | none => rw [z] at hx; cases hx
      | some k =>
        rw [z] at hx
        cases hx
        have hb : bindT (.n 8) (one (.int (0 + (k : Nat)))) (killAll (σ1 sc tn m R x6 x7 x8 x9 x10 x11 x12 x13) [8]) = some (σ1 sc tn m R x6 x7 (some (.d (.int (0 + (k : Nat))))) x9 x10 x11 x12 x13) := rfl
        simp only [hb, ev_c, asT_bl, bnd_ok, if_true]
        simp only [ev_call, evA_cons, evA_nil, ev_var, σ1, List.getElem?_cons_succ, List.getElem?_cons_zero, asW_w, bnd_ok, e, keep]
        rfl) wf 0 [] o ho (Nat.zero_le _) (by simp [line]) (by simp; omega)
  refine ⟨ys, o', py, by simpa using ly, iy, ?_⟩
  rw [ev_compDef, r8, bnd_ok]
  exact (congrArg (fun r => bnd r fun ws o2 => Mi.R.ok (Val.fl ws) o2) e).trans rfl
end
end Mi.N
end
section
set_option linter.all false
set_option Elab.async false
set_option maxHeartbeats 2000000
set_option autoImplicit false
namespace Mi.N
open PySem (Str Operator CmpOp PyData)
/-- over a list of data -/
theorem for_lst {cx : Cx} {i : Nat} {e : E} {kill : List Nat} {b : B} {o0 o1 : List Ob} {xs : List D} (τ : Nat → Sg) (he : asW (evE cx e (τ 0) o0) = .ok (.d (.lst xs)) o1) (hf : xs.length < cx.wf)
    (h : ∀ (j : Nat) (hj : j < xs.length), clean o1.length kill (evB cx b ((τ j).set i (some (.d xs[j]))) o1) = .next (τ (j + 1)) o1) :
    evS cx (.for (.n i) (.of e) kill b) (τ 0) o0 = .next (τ xs.length) o1 := by
  have hi : evI cx (.of e) (τ 0) o0 = .ok (oneI (.d (.lst xs))) o1 := by
    have e2 : evI cx (.of e) (τ 0) o0 = bnd (asW (evE cx e (τ 0) o0)) fun w o1 => ofR w o1 := Eq.trans rfl rfl
    rw [e2, he] <;> rfl
  rw [evS_for, hi, bndS_ok]
  have e : (xs.map one).length = xs.length := List.length_map _
  have := forG_st (step := fun x σ o2 => match bindT (.n i) x σ with | some σ1 => clean o1.length kill (evB cx b σ1 o2) | none => .bad) τ (fun _ => o1) (src_lst xs) cx.wf 0 (fun j x _ hx => ?_) (Nat.zero_le _) (by rw [List.drop_zero, e]; exact hf)
  · rw [e] at this
    exact this
  · rw [List.getElem?_map] at hx
    cases q : xs[j]? with
    | none => rw [q] at hx; cases hx
    | some y =>
      obtain ⟨hj, ey⟩ := List.getElem?_eq_some_iff.mp q
      rw [q] at hx
      cases hx
      have := h j hj
      rw [ey] at this
      exact this
theorem ev_lam {cx : Cx} {f j : Nat} {q : Str} {body : E} {σ : Sg} {o : List Ob} (h : o[j]? = some (.tab q)) : evE cx (.lam f j q body) σ o = cx.cal f (some fun o => evE cx body σ o) [] o := by
  have e : evE cx (.lam f j q body) σ o = (match o[j]? with
    | some (.tab q') => if q' = q then cx.cal f (some fun o => evE cx body σ o) [] o else .bad
    | _ => .bad) := Eq.trans rfl rfl
  rw [e, h]
  exact if_pos rfl
theorem ev_isc0 {x : D} {o : List Ob} : iscW false .non (.d x) o = .ok (.w (.d (.bl (match x with | .non => true | _ => false)))) o := by
  have e : iscD x .non = some (match x with | .non => true | _ => false) := by cases x <;> rfl
  show okO ((iscD x .non).map fun k => wd (.bl (if false then !k else k))) o = _
  rw [e] <;> rfl
def body5 : B := (.cons (.set 9 (.call 20 (.cons (.var 7) .nil)))
    (.cons (.ite (.or (.cmp .NotEq (.bi Bi.repr (.cons (.call 21 (.cons (.var 7) .nil)) .nil)) (.bi Bi.repr (.cons (.var 9) .nil))) (.cmp .NotEq (.bi Bi.repr (.cons (.call 9 (.cons (.var 7) .nil)) .nil)) (.bi Bi.repr (.cons (.isc false (.var 9) .non) .nil))))
    (.cons (.ret (.c (.bl false)))
    .nil)
    .nil)
    .nil))
def body10 (q : Str) : B := (.cons (.set 13 (.and (.call 19 (.cons (.var 7) (.cons (.var 5) .nil))) (.and (.cmp .Eq (.bi Bi.sorted (.cons (.var 7) .nil)) (.coll Bi.lst (.cons (.var 5) .nil))) (.cmp .Eq (.idx (.var 7) (.c (.int 0))) (.c (.int 0))))))
    (.cons (.ite (.cmp .NotEq (.bi Bi.repr (.cons (.call 7 (.cons (.var 4) (.cons (.var 7) .nil))) .nil)) (.bi Bi.repr (.cons (.var 13) .nil)))
    (.cons (.ret (.c (.bl false)))
    .nil)
    .nil)
    (.cons (.ite (.and (.not (.var 13)) (.not (.lam 23 0 q (.call 8 (.cons (.var 4) (.cons (.var 7) .nil))))))
    (.cons (.ret (.c (.bl false)))
    .nil)
    .nil)
    .nil)))
section
variable {T : Tab} {wf d : Nat} {t : Option Thk} {cur : Option Ex} {o : List Ob} {m n : Nat} {R R' : List (List Nat)} {m' : Nat}
theorem look5 (K : K01T T) (hw : 70 < wf) {x : D} (k : knT x = true) {sc tn x6 x8 x9 x10 x11 x12 x13 : Option W} :
    evB ⟨T, run T wf (d + 10), wf, t, none⟩ body5 (σ1 sc tn m R x6 (some (.d x)) x8 x9 x10 x11 x12 x13) o = .next (σ1 sc tn m R x6 (some (.d x)) x8 (some (.d ((faultG x).getD .non))) x10 x11 x12 x13) o := by
  have e20 := r_fault (T := T) (wf := wf) (d := d + 8) (t := none) (o := o) K.h19 K.h20 k (by omega)
  have e21 := r_made (T := T) (wf := wf) (d := d + 6) (t := none) (o := o) K.G K.hs K.h21 k (by omega)
  have e9 := r_isTable (T := T) (wf := wf) (d := d + 6) (t := none) (o := o) K.G K.hs K.h9 k (by omega)
  obtain ⟨s, hs⟩ := repr_fault x
  obtain ⟨b, hb⟩ := repr_bl (faultG x).isNone
  have i9 : iscW false .non (.d ((faultG x).getD .non)) o = .ok (.w (.d (.bl (faultG x).isNone))) o := ev_isc0.trans (congrArg (fun b => Mi.R.ok (Val.w (.d (.bl b))) o) (fault_non x))
  unfold body5 σ1
  rw [evB_cons]
  simp only [evS_set, ev_call, ev_var, evA_cons, evA_nil, List.getElem?_cons_succ, List.getElem?_cons_zero, asW_w, bnd_ok, e20, bndS_ok, thn_next, List.set_cons_succ, List.set_cons_zero]
  rw [evB_cons]
  simp only [evS_if, ev_or, ev_cmp, ev_bi, ev_call, ev_isc, ev_var, evA_cons, evA_nil, List.getElem?_cons_succ, List.getElem?_cons_zero, asW_w, bnd_ok, e21, repr_ev hs, ne_str, beq_self_eq_true, Bool.not_true, asT_bl, Bool.false_eq_true, if_false, e9, i9, repr_ev hb, bndS_ok, evB_nil, thn_next, wd_eq]
theorem look10 (K : K01T T) (hm : 1 ≤ m) (hm2 : m ≤ 32) (hw : 70 < wf) {q : Str} {x : D} (k : knR x = true) (ho : o[0]? = some (.tab q)) {sc tn x6 x8 x9 x10 x11 x12 x13 : Option W} :
    evB ⟨T, run T wf (d + 10), wf, t, none⟩ (body10 q) (σ1 sc tn m R x6 (some (.d x)) x8 x9 x10 x11 x12 x13) o = .next (σ1 sc tn m R x6 (some (.d x)) x8 x9 x10 x11 x12 (some (.d (.bl (isNm m x))))) o := by
  have e19 := r_isRow (T := T) (wf := wf) (d := d + 9) (t := none) (o := o) K.h19 k hm2 (by omega)
  have e7 := r_isNames (T := T) (wf := wf) (d := d + 7) (t := none) (o := o) (R := R) K.G K.h7 k hm hm2 hw
  obtain ⟨b, hb⟩ := repr_bl (isNm m x)
  have st : evE ⟨T, run T wf (d + 10), wf, t, none⟩ (.and (.call 19 (.cons (.var 7) (.cons (.var 5) .nil))) (.and (.cmp .Eq (.bi Bi.sorted (.cons (.var 7) .nil)) (.coll Bi.lst (.cons (.var 5) .nil))) (.cmp .Eq (.idx (.var 7) (.c (.int 0))) (.c (.int 0)))))
      (σ1 sc tn m R x6 (some (.d x)) x8 x9 x10 x11 x12 x13) o = .ok (.w (.d (.bl (isNm m x)))) o := by
    unfold σ1 isNm
    simp only [ev_and, ev_call, ev_var, evA_cons, evA_nil, List.getElem?_cons_succ, List.getElem?_cons_zero, asW_w, bnd_ok, e19, asT_bl, wd_eq]
    cases hr : rowOkD m x with
    | false => rfl
    | true =>
      obtain ⟨ex, l1, l2⟩ := row_isD hr
      rw [ex, rowOf_row]
      generalize rowOf x = r at l1 l2 ⊢
      have e0 : idxW o (.d (rowD r)) (.int 0) = some (.d (.int (nth r 0 : Nat))) := idx_rowD (r := r) (i := 0) (by omega)
      simp only [if_true, ev_cmp, ev_bi, ev_coll, ev_idx, ev_c, ev_var, evA_cons, evA_nil, List.getElem?_cons_succ, List.getElem?_cons_zero, asW_w, bnd_ok, sorted_row, asW_flD, coll_lst (by unfold line; omega : m ≤ line), cmp_sorted, asT_bl, idxR, view_d, e0, Option.map_some, okO_some, cmp_eq_int, Bool.true_and]
      by_cases z : nth r 0 = 0
      · cases srt m r <;> simp [z]
      · have z2 : ¬ (nth r 0 : Int) = 0 := by omega
        cases srt m r <;> simp [z, z2]
  unfold body10
  rw [evB_cons, evS_set, st]
  simp only [asW_w, bndS_ok, thn_next]
  unfold σ1
  simp only [List.set_cons_succ, List.set_cons_zero]
  rw [evB_cons]
  simp only [evS_if, ev_cmp, ev_bi, ev_call, ev_var, evA_cons, evA_nil, List.getElem?_cons_succ, List.getElem?_cons_zero, asW_w, bnd_ok, e7, repr_ev hb, ne_str, beq_self_eq_true, Bool.not_true, asT_bl, bndS_ok, Bool.false_eq_true, if_false, evB_nil, thn_next]
  rw [evB_cons]
  cases hx : isNm m x with
  | true =>
    simp only [evS_if, ev_and, ev_not, ev_var, List.getElem?_cons_succ, List.getElem?_cons_zero, asT_bl, bnd_ok, wd_eq, Bool.not_true, Bool.false_eq_true, if_false, bndS_ok, evB_nil, thn_next]
  | false =>
    have e8 := r_renamedNo (T := T) (wf := wf) (d := d + 5) (t := none) (o := o) (R := R) K.G K.h7 K.h8 K.c21 k hm hm2 hx hw
    have th : ∀ y, evE ⟨T, run T wf (d + 10), wf, t, none⟩ (.call 8 (.cons (.var 4) (.cons (.var 7) .nil))) [sc, some (.loc 1), tn, some (.d (tabD R)), some (.d (groupV m R)), some (.d (.int m)), x6, some (.d x), x8, x9, x10, x11, x12, y] o = .exc ⟨21, []⟩ o := fun y => by
      simp only [ev_call, ev_var, evA_cons, evA_nil, List.getElem?_cons_succ, List.getElem?_cons_zero, asW_w, bnd_ok, e8]
    have e23 := fun y => r_refused (T := T) (wf := wf) (d := d + 9) (o := o) (th := fun o => evE ⟨T, run T wf (d + 10), wf, t, none⟩ (.call 8 (.cons (.var 4) (.cons (.var 7) .nil))) [sc, some (.loc 1), tn, some (.d (tabD R)), some (.d (groupV m R)), some (.d (.int m)), x6, some (.d x), x8, x9, x10, x11, x12, y] o) K.hs K.h23 (th y)
    simp only [evS_if, ev_and, ev_not, ev_lam ho, ev_var, List.getElem?_cons_succ, List.getElem?_cons_zero, asT_bl, bnd_ok, wd_eq, Bool.not_false, if_true, e23, Bool.not_true, Bool.false_eq_true, if_false, bndS_ok, evB_nil, thn_next]
theorem loop5 (K : K01T T) (g : Good m R) (hw : 70 < wf) {q : Str} (ho : Two q o) {sc tn x6 x10 x11 x12 x13 : Option W} :
    ∃ x7 o', Two q o' ∧ evS ⟨T, run T wf (d + 10), wf, t, none⟩ (.for (.n 7) (.of (.comp [8] (.n 8) (.range (.cons (.c (.int 8)) .nil)) (.c (.bl true)) (.call 22 (.cons (.var 1) (.cons (.var 3) .nil))))) [8, 9] body5)
      (σ1 sc tn m R x6 none none none x10 x11 x12 x13) o = .next (σ1 sc tn m R x6 x7 none none x10 x11 x12 x13) o' := by
  obtain ⟨xs, o', kx, lx, h2, e⟩ := bents_ev (T := T) (wf := wf) (d := d) (t := t) K g hw ho (sc := sc) (tn := tn) (x6 := x6) (x7 := none) (x8 := none) (x9 := none) (x10 := x10) (x11 := x11) (x12 := x12) (x13 := x13)
  let τ : Nat → Sg := fun j => σ1 sc tn m R x6 (match j with | 0 => none | j + 1 => some (.d (atD xs j))) none none x10 x11 x12 x13
  have lp := for_lst (cx := ⟨T, run T wf (d + 10), wf, t, none⟩) (i := 7) (kill := [8, 9]) (b := body5) (o0 := o) (o1 := o') (xs := xs) τ (by show asW (evE _ _ (σ1 sc tn m R x6 none none none x10 x11 x12 x13) o) = _; rw [e, asW_flD]) (by show xs.length < wf; omega) (fun j hj => by
    have ex : xs[j] = atD xs j := atD_is (List.getElem?_eq_getElem hj)
    have kj := kx _ (List.getElem_mem hj)
    rw [ex] at kj ⊢
    have e5 := look5 (T := T) (wf := wf) (d := d) (t := t) (o := o') (m := m) (R := R) K hw kj (sc := sc) (tn := tn) (x6 := x6) (x8 := none) (x9 := none) (x10 := x10) (x11 := x11) (x12 := x12) (x13 := x13)
    have es : (τ j).set 7 (some (.d (atD xs j))) = σ1 sc tn m R x6 (some (.d (atD xs j))) none none x10 x11 x12 x13 := rfl
    rw [es, e5]
    show SR.next _ (trunc _ _ _) = _
    rw [under_take rfl]
    rfl)
  exact ⟨_, o', h2, lp⟩
end
end Mi.N
end
section
set_option linter.all false
set_option Elab.async false
set_option maxHeartbeats 2000000
set_option autoImplicit false
namespace Mi.N
open PySem (Str Operator CmpOp PyData)
theorem forG_ex {step : Item → Sg → List Ob → SR} {f : Itr} {xs : List Item} {I : Sg → List Ob → Prop} (hs : Src f xs) (h : ∀ (j : Nat) (x : Item) (σ : Sg) (o : List Ob), xs[j]? = some x → I σ o → ∃ (σ' : Sg) (o' : List Ob), I σ' o' ∧ step x σ o = .next σ' o') : ∀ (fuel i : Nat) (σ : Sg) (o : List Ob), I σ o →
    (xs.drop i).length < fuel → ∃ (σ' : Sg) (o' : List Ob), I σ' o' ∧ forG step f fuel i σ o = .next σ' o'
  | 0, i, σ, o, hI, hf => absurd hf (Nat.not_lt_zero _)
  | fuel + 1, i, σ, o, hI, hf => by
    unfold forG
    rw [hs o i]
    cases q : xs[i]? with
    | none => exact ⟨σ, o, hI, rfl⟩
    | some x =>
      obtain ⟨hi, e⟩ := List.getElem?_eq_some_iff.mp q
      obtain ⟨σ1, o1, i1, e1⟩ := h i x σ o q hI
      dsimp only
      rw [e1]
      exact forG_ex hs h fuel (i + 1) σ1 o1 i1 (by rw [List.length_drop] at hf ⊢; omega)
def bTurn (q : Str) : B :=
    (.cons (.set 3 (.call 18 (.cons (.var 1) .nil)))
    (.cons (.par (.cons (.n 4) (.cons (.n 5) .nil)) (.cons (.mk 0 (.cons (.var 3) .nil)) (.cons (.bi Bi.len (.cons (.var 3) .nil)) .nil)))
    (.cons (.ite (.or (.cmp .NotEq (.bi Bi.repr (.cons (.tup (.cons (.attr (.var 4) 1) (.cons (.attr (.var 4) 2) .nil))) .nil)) (.bi Bi.repr (.cons (.tup (.cons (.var 3) (.cons (.var 5) .nil))) .nil))) (.or (.cmp .NotEq (.var 4) (.mk 0 (.cons (.var 3) .nil))) (.cmp .Eq (.var 4) (.var 3))))
    (.cons (.ret (.c (.bl false)))
    .nil)
    .nil)
    (.cons (.ite (.or (.cmp .NotEq (.bi Bi.lst (.cons (.attr (.var 4) 3) .nil)) (.comp [6] (.n 6) (.of (.var 3)) (.c (.bl true)) (.mth Mt.index (.var 6) (.cons (.c (.int 0)) .nil)))) (.cmp .Eq (.var 4) (.mk 0 (.cons (.call 13 (.cons (.c (.int 9)) .nil)) .nil))))
    (.cons (.ret (.c (.bl false)))
    .nil)
    .nil)
    (.cons (.for (.n 7) (.of (.comp [8] (.n 8) (.range (.cons (.c (.int 8)) .nil)) (.c (.bl true)) (.call 22 (.cons (.var 1) (.cons (.var 3) .nil))))) [8, 9] body5)
    (.cons (.set 10 (.call 16 (.cons (.var 1) (.cons (.var 5) .nil))))
    (.cons (.set 11 (.call 8 (.cons (.var 4) (.cons (.var 10) .nil))))
    (.cons (.ite (.or (.cmp .NotEq (.var 11) (.mk 0 (.cons (.call 17 (.cons (.var 3) (.cons (.var 10) .nil))) .nil))) (.isc true (.call 7 (.cons (.var 4) (.cons (.var 10) .nil))) (.bl true)))
    (.cons (.ret (.c (.bl false)))
    .nil)
    .nil)
    (.cons (.set 12 (.lst (.cons (.rev (.var 10)) (.cons (.bin .Add (.var 10) (.tup (.cons (.var 5) .nil))) (.cons (.bi Bi.lst (.cons (.var 10) .nil)) (.cons (.sl false true (.var 10) (.c .non) (.neg (.c (.int 1)))) (.cons (.c .non) (.cons (.var 10) .nil))))))))
    (.cons (.for (.n 7) (.of (.bin .Add (.var 12) (.lst (.cons (.bin .Mult (.tup (.cons (.c (.int 0)) .nil)) (.var 5)) (.cons (.c (.dct [])) (.cons (.bin .Mult (.tup (.cons (.c (.bl true)) .nil)) (.var 5)) .nil)))))) [13] (body10 q))
    .nil))))))))))
def bLaw (q : Str) : B :=
    (.cons (.set 1 (.alloc (.call 10 (.cons (.var 0) .nil))))
    (.cons (.for (.n 2) (.range (.cons (.c (.int 4)) .nil)) [2, 3, 4, 5, 6, 7, 8, 9, 10, 11, 12, 13] (bTurn q))
    (.cons (.ret (.c (.bl true)))
    .nil)))
section
variable {T : Tab} {wf d : Nat} {t : Option Thk} {cur : Option Ex} {o : List Ob} {m n : Nat} {R R' : List (List Nat)} {m' : Nat} {p : List Nat}
theorem two0 {q : Str} (h : Two q o) : o[0]? = some (.tab q) := by
  obtain ⟨x, _, rfl⟩ := h
  rfl
theorem loop10 (K : K01T T) (g : Good m R) (N : Names m p) (hw : 70 < wf) {q : Str} (ho : o[0]? = some (.tab q)) {sc tn x6 x7 x11 : Option W} {L : List D} (hL : L.length = 6) (kL : ∀ x ∈ L, knR x = true) :
    ∃ x7', evS ⟨T, run T wf (d + 10), wf, t, none⟩ (.for (.n 7) (.of (.bin .Add (.var 12) (.lst (.cons (.bin .Mult (.tup (.cons (.c (.int 0)) .nil)) (.var 5)) (.cons (.c (.dct [])) (.cons (.bin .Mult (.tup (.cons (.c (.bl true)) .nil)) (.var 5)) .nil)))))) [13] (body10 q))
      (σ1 sc tn m R x6 x7 none none (some (.d (rowD p))) x11 (some (.d (.lst L))) none) o = .next (σ1 sc tn m R x6 x7' none none (some (.d (rowD p))) x11 (some (.d (.lst L))) none) o := by
  have hi := g.hi
  let xs : List D := L ++ [.tup (List.replicate m [D.int 0]).flatten, .dct [], .tup (List.replicate m [D.bl true]).flatten]
  have kx : ∀ x ∈ xs, knR x = true := by
    intro x hx
    rcases List.mem_append.mp hx with h | h
    · exact kL x h
    · simp only [List.mem_cons, List.not_mem_nil, or_false] at h
      rcases h with rfl | rfl | rfl
      · refine all_kn fun y hy => ?_
        simp only [List.mem_flatten, List.mem_replicate] at hy
        obtain ⟨l, ⟨_, rfl⟩, h⟩ := hy
        rw [List.mem_singleton.mp h] <;> rfl
      · rfl
      · refine all_kn fun y hy => ?_
        simp only [List.mem_flatten, List.mem_replicate] at hy
        obtain ⟨l, ⟨_, rfl⟩, h⟩ := hy
        rw [List.mem_singleton.mp h] <;> rfl
  have lx : xs.length = 9 := by simp [xs, hL]
  let τ : Nat → Sg := fun j => σ1 sc tn m R x6 (match j with | 0 => x7 | j + 1 => some (.d (atD xs j))) none none (some (.d (rowD p))) x11 (some (.d (.lst L))) none
  have t1 : ∀ x : D, tupR [.d x] o = .ok (.w (.d (.tup [x]))) o := fun x => tupR_ok rfl (by simp [line])
  have m1 : ∀ x : D, opD2 (binD .Mult) (.d (.tup [x])) (.d (.int m)) o = .ok (.w (.d (.tup (List.replicate m [x]).flatten))) o := fun x => mul_tup_nat (k := m) (by omega) (by simp)
  have l3 : ∀ x1 x2 x3 : D, asW (lstR [.d x1, .d x2, .d x3] o) = .ok (.d (.lst [x1, x2, x3])) o := fun _ _ _ => asW_lst rfl (by simp [line])
  have ad : opD2 (binD .Add) (.d (.lst L)) (.d (.lst [.tup (List.replicate m [D.int 0]).flatten, .dct [], .tup (List.replicate m [D.bl true]).flatten])) o = .ok (flD xs) o := bin_addL (by simp [line, hL])
  have lp := for_lst (cx := ⟨T, run T wf (d + 10), wf, t, none⟩) (i := 7) (kill := [13]) (b := body10 q) (o0 := o) (o1 := o) (xs := xs) (e := (.bin .Add (.var 12) (.lst (.cons (.bin .Mult (.tup (.cons (.c (.int 0)) .nil)) (.var 5)) (.cons (.c (.dct [])) (.cons (.bin .Mult (.tup (.cons (.c (.bl true)) .nil)) (.var 5)) .nil)))))) τ
    (by
      simp only [τ, σ1, ev_bin, ev_lst, ev_tup, ev_c, ev_var, evA_cons, evA_nil, List.getElem?_cons_succ, List.getElem?_cons_zero, asW_w, bnd_ok, t1, m1, l3, ad, asW_flD]) (by rw [lx]; show 9 < wf; omega) (fun j hj => by
    have ex : xs[j] = atD xs j := atD_is (List.getElem?_eq_getElem hj)
    have kj := kx _ (List.getElem_mem hj)
    rw [ex] at kj ⊢
    have e5 := look10 (T := T) (wf := wf) (d := d) (t := t) (o := o) (m := m) (R := R) K g.lo g.hi hw kj ho (sc := sc) (tn := tn) (x6 := x6) (x8 := none) (x9 := none) (x10 := some (.d (rowD p))) (x11 := x11) (x12 := some (.d (.lst L))) (x13 := none)
    have es : (τ j).set 7 (some (.d (atD xs j))) = σ1 sc tn m R x6 (some (.d (atD xs j))) none none (some (.d (rowD p))) x11 (some (.d (.lst L))) none := rfl
    rw [es, e5]
    show SR.next _ (trunc _ _ _) = _
    rw [under_take rfl]
    rfl)
  exact ⟨_, lp⟩
theorem turn_ev (K : K01T T) (hw : 70 < wf) {q : Str} (ho : Two q o) {sc tn : Option W} :
    ∃ (R : List (List Nat)) (m : Nat) (o' : List Ob) (x7 x10 x11 x12 : Option W), Two q o' ∧ evB ⟨T, run T wf (d + 10), wf, t, none⟩ (bTurn q) [sc, some (.loc 1), tn, none, none, none, none, none, none, none, none, none, none, none] o =
      .next (σ1 sc tn m R none x7 none none x10 x11 x12 none) o' := by
  obtain ⟨h, hh, rfl⟩ := ho
  obtain ⟨m, R, h1, g, m8, q1, e18⟩ := r_table (T := T) (wf := wf) (d := d + 7) (t := none) (n := 1) (o := [.tab q, h]) K.h13 K.h14 K.h15 K.h11 K.h12 K.h17 K.h16 K.h18 hh rfl hw
  have s1 : [Ob.tab q, h].set 1 h1 = [.tab q, h1] := rfl
  rw [s1] at e18
  have mk := mk_good (T := T) (wf := wf) (d := d + 7) (t := t) (cur := none) (o := [.tab q, h1]) K.G g (by omega)
  have lk1 := look1 (T := T) (wf := wf) (d := d) (t := t) (o := [.tab q, h1]) K g hw (sc := sc) (tn := tn) (x6 := none) (x7 := none) (x8 := none) (x9 := none) (x10 := none) (x11 := none) (x12 := none) (x13 := none)
  have lk2 := look2 (T := T) (wf := wf) (d := d) (t := t) (o := [.tab q, h1]) K g m8 hw (sc := sc) (tn := tn) (x6 := none) (x7 := none) (x8 := none) (x9 := none) (x10 := none) (x11 := none) (x12 := none) (x13 := none)
  obtain ⟨x7, o2, ⟨h2, q2, ro2⟩, lp5⟩ := loop5 (T := T) (wf := wf) (d := d) (t := t) (o := [.tab q, h1]) K g hw ⟨h1, q1, rfl⟩ (sc := sc) (tn := tn) (x6 := none) (x10 := none) (x11 := none) (x12 := none) (x13 := none)
  subst ro2
  obtain ⟨p, h3, N, q3, e16⟩ := r_names (T := T) (wf := wf) (d := d + 8) (t := none) (m := m) (n := 1) (o := [.tab q, h2]) K.h11 K.h16 q2 rfl (by have := g.lo; omega) (by omega) hw
  have s3 : [Ob.tab q, h2].set 1 h3 = [.tab q, h3] := rfl
  rw [s3] at e16
  have e8 := r_renamed (T := T) (wf := wf) (d := d + 5) (t := none) (o := [.tab q, h3]) K.G K.h6 K.h7 K.h8 g N hw
  have e17 := r_called (T := T) (wf := wf) (d := d + 9) (t := none) (o := [.tab q, h3]) K.h17 g.sq N (by have := g.lo; omega) (by omega) hw
  have mk2 := mk_good (T := T) (wf := wf) (d := d + 7) (t := t) (cur := none) (o := [.tab q, h3]) K.G (g.called N) (by omega)
  have e7 := r_isNames (T := T) (wf := wf) (d := d + 7) (t := none) (o := [.tab q, h3]) (R := R) K.G K.h7 (x := rowD p) (kn_intL p) g.lo g.hi hw
  rw [isNm_names N] at e7
  have pl : (intL p).length = m := by rw [intL_len, N.len]
  let L : List D := [.tup (intL p).reverse, .tup (intL p ++ [.int m]), .lst (intL p), .tup (cut (intL p) none (some (-1))), .non, rowD p]
  have kL : ∀ x ∈ L, knR x = true := by
    intro x hx
    simp only [L, List.mem_cons, List.not_mem_nil, or_false] at hx
    rcases hx with rfl | rfl | rfl | rfl | rfl | rfl
    · exact all_kn fun y hy => knInt (List.mem_reverse.mp hy)
    · refine all_kn fun y hy => ?_
      rcases List.mem_append.mp hy with h | h
      · exact knInt h
      · rw [List.mem_singleton.mp h] <;> rfl
    · rfl
    · exact all_kn fun y hy => knInt (cut_mem hy)
    · rfl
    · exact kn_intL p
  obtain ⟨x7', lp10⟩ := loop10 (T := T) (wf := wf) (d := d) (t := t) (o := [.tab q, h3]) K g N hw rfl (sc := sc) (tn := tn) (x6 := none) (x7 := x7) (x11 := some (.d (groupV m (calledR p R m)))) (L := L) rfl kL
  refine ⟨R, m, [.tab q, h3], x7', some (.d (rowD p)), some (.d (groupV m (calledR p R m))), some (.d (.lst L)), ⟨h3, q3, rfl⟩, ?_⟩
  have rd : rowD p = .tup (intL p) := rfl
  have t1 : tupR [.d (.int m)] [.tab q, h3] = .ok (.w (.d (.tup [.int m]))) [.tab q, h3] := tupR_ok rfl (by simp [line])
  have a1 : opD2 (binD .Add) (.d (.tup (intL p))) (.d (.tup [.int m])) [.tab q, h3] = .ok (.w (.d (.tup (intL p ++ [.int m])))) [.tab q, h3] := bin_addT (by rw [pl]; simp [line]; omega)
  have ls : opDs (biD Bi.lst) [.d (.tup (intL p))] [.tab q, h3] = .ok (flD (intL p)) [.tab q, h3] := lst_tup _ _
  have l6 : ∀ x1 x2 x3 x4 x5 x6 : D, asW (lstR [.d x1, .d x2, .d x3, .d x4, .d x5, .d x6] [.tab q, h3]) = .ok (.d (.lst [x1, x2, x3, x4, x5, x6])) [.tab q, h3] := fun _ _ _ _ _ _ => asW_lst rfl (by simp [line])
  unfold bTurn
  rw [evB_cons]
  simp only [evS_set, ev_call, ev_var, evA_cons, evA_nil, List.getElem?_cons_succ, List.getElem?_cons_zero, asW_w, bnd_ok, e18, bndS_ok, thn_next, List.set_cons_succ, List.set_cons_zero]
  rw [evB_cons]
  simp only [evS_par, ev_mk, ev_bi, ev_var, evA_cons, evA_nil, List.getElem?_cons_succ, List.getElem?_cons_zero, asW_w, bnd_ok, mk, len_tab g.sq, bndS_ok, bindTs, bindT, thn_next, List.set_cons_succ, List.set_cons_zero]
  rw [evB_cons, evS_if]
  unfold σ1 at lk1 lk2 lp5 lp10
  rw [lk1]
  simp only [asT_bl, bndS_ok, Bool.false_eq_true, if_false, evB_nil, thn_next]
  rw [evB_cons, evS_if, lk2]
  simp only [asT_bl, bndS_ok, Bool.false_eq_true, if_false, evB_nil, thn_next]
  rw [evB_cons, lp5, thn_next, evB_cons]
  simp only [evS_set, ev_call, ev_var, evA_cons, evA_nil, List.getElem?_cons_succ, List.getElem?_cons_zero, asW_w, bnd_ok, e16, bndS_ok, thn_next, List.set_cons_succ, List.set_cons_zero]
  rw [evB_cons]
  simp only [evS_set, ev_call, ev_var, evA_cons, evA_nil, List.getElem?_cons_succ, List.getElem?_cons_zero, asW_w, bnd_ok, e8, bndS_ok, thn_next, List.set_cons_succ, List.set_cons_zero]
  rw [evB_cons]
  have ic : ∀ o : List Ob, iscW true (.bl true) (.d (.bl true)) o = .ok (.w (.d (.bl false))) o := fun o => rfl
  simp only [evS_if, ev_or, ev_cmp, ev_mk, ev_isc, ev_call, ev_var, evA_cons, evA_nil, List.getElem?_cons_succ, List.getElem?_cons_zero, asW_w, bnd_ok, e17, mk2, grp_ne K, decide_true, Bool.not_true, asT_bl, Bool.false_eq_true, if_false, e7, ic, bndS_ok, evB_nil, thn_next, wd_eq]
  rw [evB_cons]
  simp only [evS_set, ev_lst, ev_rev, ev_bin, ev_tup, ev_bi, ev_sl, ev_neg, ev_c, ev_var, evA_cons, evA_nil, List.getElem?_cons_succ, List.getElem?_cons_zero, asW_w, bnd_ok, rd, rev_tup, t1, a1, ls, asW_flD, part_f, part_t, okO_some, neg_int, sl_tup, l6, bndS_ok, thn_next, List.set_cons_succ, List.set_cons_zero]
  rw [evB_cons]
  have lp10' := lp10
  rw [rd] at lp10'
  have rL : L = [.tup (intL p).reverse, .tup (intL p ++ [.int m]), .lst (intL p), .tup (cut (intL p) none (some (-1))), .non, .tup (intL p)] := rfl
  rw [rL] at lp10'
  rw [lp10', thn_next, evB_nil]
  rfl
theorem law_ev {i : Nat} (K : K01T T) {q : Str} (h24 : Has T i ⟨1, 14, bLaw q⟩) (hw : 70 < wf) {ns : List Int} (hl : ns.length ≤ 63) : ∃ o', run T wf (d + 11) i none [.d (.lst (ns.map D.int))] [.tab q] = .ok (.w (.d (.bl true))) o' := by
  rw [run_has h24 rfl]
  obtain ⟨xs, h', hh, eh, e10⟩ := r_hand (T := T) (wf := wf) (d := d + 9) (t := none) (o := [.tab q]) K.h10 hl hw
  subst eh
  have al : allocR (flD xs) [.tab q] = .ok (.w (.loc 1)) [.tab q, .lst (xs.map .d)] := rfl
  unfold bLaw
  simp only [List.map_cons, List.map_nil, List.replicate, List.cons_append, List.nil_append, Nat.reduceSub, List.append_eq]
  rw [evB_cons]
  simp only [evS_set, ev_alloc, ev_call, ev_var, evA_cons, evA_nil, List.getElem?_cons_succ, List.getElem?_cons_zero, asW_w, bnd_ok, e10, al, bndS_ok, thn_next, List.set_cons_succ, List.set_cons_zero]
  let σ0 : Sg := [some (.d (.lst (ns.map .int))), some (.loc 1), none, none, none, none, none, none, none, none, none, none, none, none]
  have r4 : evI ⟨T, run T wf (d + 10), wf, none, none⟩ (.range (.cons (.c (.int 4)) .nil)) σ0 [.tab q, .lst (xs.map .d)] = .ok (rngI 0 4) [.tab q, .lst (xs.map .d)] := evI_rng (n := 4) (by simp only [evA_cons, evA_nil, ev_c, asW_w, bnd_ok]; rfl) (by decide)
  obtain ⟨σ', o', ⟨i1, i2⟩, e⟩ := forG_ex (step := fun x σ o2 => match bindT (.n 2) x σ with | some σ1 => clean 2 [2, 3, 4, 5, 6, 7, 8, 9, 10, 11, 12, 13] (evB ⟨T, run T wf (d + 10), wf, none, none⟩ (bTurn q) σ1 o2) | none => .bad) (I := fun σ o => Two q o ∧ σ = σ0) (src_rng 0 4) (fun j x σ o hx hI => by
    obtain ⟨h2, rfl⟩ := hI
    rw [List.getElem?_map] at hx
    cases z : (List.range 4)[j]? with
    | none => rw [z] at hx; cases hx
    | some y =>
      rw [z] at hx
      cases hx
      obtain ⟨R, m, o2, x7, x10, x11, x12, ho2, et⟩ := turn_ev (T := T) (wf := wf) (d := d) (t := none) K hw h2 (sc := some (.d (.lst (ns.map .int)))) (tn := some (.d (.int (0 + (y : Nat)))))
      refine ⟨σ0, o2, ⟨ho2, rfl⟩, ?_⟩
      show clean 2 _ (evB _ (bTurn q) _ o) = _
      have es : σ0.set 2 (some (.d (.int (0 + (y : Nat))))) = [some (.d (.lst (ns.map .int))), some (.loc 1), some (.d (.int (0 + (y : Nat)))), none, none, none, none, none, none, none, none, none, none, none] := rfl
      show clean 2 _ (evB _ (bTurn q) (σ0.set 2 (some (.d (.int (0 + (y : Nat)))))) o) = _
      rw [es, et]
      show SR.next _ (trunc _ _ _) = _
      have l2 : (2 : Nat) = o2.length := by
        obtain ⟨_, _, rfl⟩ := ho2
        rfl
      rw [under_take l2]
      rfl) wf 0 σ0 [.tab q, .lst (xs.map .d)] ⟨⟨_, hh, rfl⟩, rfl⟩ (by simp; omega)
  refine ⟨o'.take 1, ?_⟩
  rw [evB_cons, evS_for]
  show retR 1 (thn (bndS (evI _ _ σ0 _) _ _) _) = _
  rw [r4, bndS_ok]
  have e' : forG (fun x σ o2 => match bindT (.n 2) x σ with | some σ1 => clean [Ob.tab q, .lst (xs.map .d)].length [2, 3, 4, 5, 6, 7, 8, 9, 10, 11, 12, 13] (evB ⟨T, run T wf (d + 10), wf, none, none⟩ (bTurn q) σ1 o2) | none => .bad) (rngI 0 4) wf 0 σ0 [.tab q, .lst (xs.map .d)] = .next σ' o' := e
  refine (congrArg (fun r => retR 1 (thn r _)) e').trans ?_
  rw [thn_next, evB_cons]
  simp only [evS_ret, ev_c, bndS_ok, thn_ret, retR_d]
end
end Mi.N
end
section
set_option linter.all false
set_option Elab.async false
set_option maxRecDepth 100000
set_option maxHeartbeats 8000000
set_option autoImplicit false
namespace LawK01
open Mi PySem L2
abbrev row : PySem.W.OpenLaw := PySem.Challenge.rw_tablegroups_k01_whole_groups_judged
abbrev prg : Program := PySem.Challenge.pw_tablegroups_k01_whole_groups_judged
def top (i : Nat) : Stmt := prg.main.body.getD i (.Pass ⟨0, 0, 0, 0⟩)
def mt (i j : Nat) : Stmt := (C8.clsBody (top i)).getD j (.Pass ⟨0, 0, 0, 0⟩)
def b0 : B :=
    (.cons (.ret (.and (.isi Bi.isInt (.var 0)) (.not (.isi Bi.isBool (.var 0)))))
    .nil)
def b1 : B :=
    (.cons (.ret (.and (.call 0 (.cons (.var 0) .nil)) (.chain .LtE .LtE (.var 1) (.var 0) (.var 2))))
    .nil)
def b2 : B :=
    (.cons (.ret (.and (.isi Bi.isTup (.var 0)) (.chain .LtE .LtE (.var 1) (.bi Bi.len (.cons (.var 0) .nil)) (.var 2))))
    .nil)
def b3 : B :=
    (.cons (.ite (.not (.call 2 (.cons (.var 1) (.cons (.c (.int 1)) (.cons (.gc 0 (.int 32)) .nil)))))
    (.cons (.raise 20 (.cons (.c (.str (PySem.Str.ofString "table"))) .nil))
    .nil)
    .nil)
    (.cons (.set 2 (.bi Bi.len (.cons (.var 1) .nil)))
    (.cons (.for (.tup (.cons (.n 3) (.cons (.n 4) .nil))) (.enum (.var 1)) [3, 5]
    (.cons (.ite (.or (.not (.call 2 (.cons (.var 4) (.cons (.var 2) (.cons (.var 2) .nil))))) (.not (.bi Bi.all (.cons (.comp [5] (.n 5) (.of (.var 4)) (.c (.bl true)) (.call 1 (.cons (.var 5) (.cons (.c (.int 0)) (.cons (.bin .Sub (.var 2) (.c (.int 1))) .nil))))) .nil))))
    (.cons (.raise 20 (.cons (.var 3) .nil))
    .nil)
    .nil)
    .nil))
    (.cons (.ite (.or (.cmp .NotEq (.bi Bi.lst (.cons (.idx (.var 1) (.c (.int 0))) .nil)) (.coll Bi.lst (.cons (.var 2) .nil))) (.cmp .NotEq (.comp [4] (.n 4) (.of (.var 1)) (.c (.bl true)) (.idx (.var 4) (.c (.int 0)))) (.coll Bi.lst (.cons (.var 2) .nil))))
    (.cons (.raise 20 (.cons (.c (.str (PySem.Str.ofString "one"))) .nil))
    .nil)
    .nil)
    (.cons (.ite (.not (.bi Bi.all (.cons (.comp [4] (.n 4) (.of (.var 1)) (.c (.bl true)) (.cmp .In (.c (.int 0)) (.var 4))) .nil)))
    (.cons (.raise 20 (.cons (.c (.str (PySem.Str.ofString "backs"))) .nil))
    .nil)
    .nil)
    (.cons (.ite (.not (.call 5 (.cons (.var 1) .nil)))
    (.cons (.raise 20 (.cons (.c (.str (PySem.Str.ofString "threes"))) .nil))
    .nil)
    .nil)
    (.cons (.seta (.var 0) 1 (.var 1))
    (.cons (.seta (.var 0) 2 (.var 2))
    (.cons (.seta (.var 0) 3 (.bi Bi.tup (.cons (.comp [4] (.n 4) (.of (.var 1)) (.c (.bl true)) (.mth Mt.index (.var 4) (.cons (.c (.int 0)) .nil))) .nil)))
    .nil)))))))))
def b4 : B :=
    (.cons (.ret (.and (.iso 0 (.var 1)) (.cmp .Eq (.attr (.var 0) 1) (.attr (.var 1) 1))))
    .nil)
def b5 : B :=
    (.cons (.for (.n 1) (.of (.var 0)) [1, 2, 3, 4]
    (.cons (.for (.tup (.cons (.n 2) (.cons (.n 3) .nil))) (.enum (.var 1)) [2, 3, 4]
    (.cons (.ite (.cmp .NotEq (.bi Bi.tup (.cons (.comp [4] (.n 4) (.of (.idx (.var 0) (.var 2))) (.c (.bl true)) (.idx (.var 1) (.var 4))) .nil)) (.idx (.var 0) (.var 3)))
    (.cons (.ret (.c (.bl false)))
    .nil)
    .nil)
    .nil))
    .nil))
    (.cons (.ret (.c (.bl true)))
    .nil))
def b6 : B :=
    (.cons (.set 2 (.alloc (.comp [3] (.n 3) (.range (.cons (.attr (.var 0) 2) .nil)) (.c (.bl true)) (.alloc (.bin .Mult (.lst (.cons (.c (.int 0)) .nil)) (.attr (.var 0) 2))))))
    (.cons (.for (.n 4) (.range (.cons (.attr (.var 0) 2) .nil)) [4, 5]
    (.cons (.for (.n 5) (.range (.cons (.attr (.var 0) 2) .nil)) [5]
    (.cons (.seti (.idx (.var 2) (.idx (.var 1) (.var 4))) (.idx (.var 1) (.var 5)) (.idx (.var 1) (.idx (.idx (.attr (.var 0) 1) (.var 4)) (.var 5))))
    .nil))
    .nil))
    (.cons (.ret (.mk 0 (.cons (.bi Bi.tup (.cons (.comp [6] (.n 6) (.of (.var 2)) (.c (.bl true)) (.bi Bi.tup (.cons (.var 6) .nil))) .nil)) .nil)))
    .nil)))
def b7 : B :=
    (.cons (.ite (.not (.call 2 (.cons (.var 1) (.cons (.attr (.var 0) 2) (.cons (.attr (.var 0) 2) .nil)))))
    (.cons (.ret (.c (.bl false)))
    .nil)
    .nil)
    (.cons (.ite (.not (.bi Bi.all (.cons (.comp [2] (.n 2) (.of (.var 1)) (.c (.bl true)) (.call 1 (.cons (.var 2) (.cons (.c (.int 0)) (.cons (.bin .Sub (.attr (.var 0) 2) (.c (.int 1))) .nil))))) .nil)))
    (.cons (.ret (.c (.bl false)))
    .nil)
    .nil)
    (.cons (.ret (.and (.cmp .Eq (.idx (.var 1) (.c (.int 0))) (.c (.int 0))) (.cmp .Eq (.bi Bi.sorted (.cons (.var 1) .nil)) (.coll Bi.lst (.cons (.attr (.var 0) 2) .nil)))))
    .nil)))
def b8 : B :=
    (.cons (.ite (.not (.call 7 (.cons (.var 0) (.cons (.var 1) .nil))))
    (.cons (.raise 21 .nil)
    .nil)
    .nil)
    (.cons (.ret (.call 6 (.cons (.var 0) (.cons (.var 1) .nil))))
    .nil))
def b9 : B :=
    (.cons (.try (.cons (.ex (.mk 0 (.cons (.var 0) .nil)))
    .nil) 20 none
    (.cons (.ret (.c (.bl false)))
    .nil))
    (.cons (.ret (.c (.bl true)))
    .nil))
def b10 : B :=
    (.cons (.set 1 (.comp [2] (.n 2) (.of (.sl false true (.var 0) (.c .non) (.c (.int 63)))) (.c (.bl true)) (.bi Bi.abs (.cons (.bi Bi.int (.cons (.var 2) .nil)) .nil))))
    (.cons (.ret (.lst (.cons (.var 1) (.cons (.c (.int 0)) (.cons (.c (.int 0)) (.cons (.bin .Add (.c (.int 347)) (.bin .Mult (.c (.int 227)) (.bi Bi.len (.cons (.var 1) .nil)))) (.cons (.c (.int 0)) .nil)))))))
    .nil))
def b11 : B :=
    (.cons (.ite (.and (.cmp .Eq (.idx (.var 0) (.c (.int 2))) (.c (.int 0))) (.cmp .Lt (.idx (.var 0) (.c (.int 1))) (.bi Bi.len (.cons (.idx (.var 0) (.c (.int 0))) .nil))))
    (.cons (.set 2 (.idx (.idx (.var 0) (.c (.int 0))) (.idx (.var 0) (.c (.int 1)))))
    (.cons (.seti (.var 0) (.c (.int 1)) (.bin .Add (.idx (.var 0) (.c (.int 1))) (.c (.int 1))))
    (.cons (.seti (.var 0) (.c (.int 3)) (.bin .Mod (.bi Bi.int (.cons (.bin .Add (.bin .Add (.bin .Mult (.idx (.var 0) (.c (.int 3))) (.c (.int 69621))) (.bin .Mult (.var 2) (.c (.int 48271)))) (.c (.int 17))) .nil)) (.c (.int 2147483629))))
    (.cons (.ite (.cmp .GtE (.var 2) (.bin .Pow (.c (.int 10)) (.c (.int 18))))
    (.cons (.seti (.var 0) (.c (.int 2)) (.var 2))
    .nil)
    .nil)
    .nil))))
    .nil)
    (.cons (.ite (.cmp .Gt (.idx (.var 0) (.c (.int 2))) (.c (.int 0)))
    (.cons (.set 3 (.bin .Mod (.bi Bi.int (.cons (.idx (.var 0) (.c (.int 2))) .nil)) (.var 1)))
    (.cons (.seti (.var 0) (.c (.int 2)) (.bin .FloorDiv (.idx (.var 0) (.c (.int 2))) (.var 1)))
    (.cons (.ret (.var 3))
    .nil)))
    .nil)
    (.cons (.seti (.var 0) (.c (.int 4)) (.bin .Add (.idx (.var 0) (.c (.int 4))) (.c (.int 1))))
    (.cons (.set 4 (.bin .Mod (.bi Bi.int (.cons (.bin .Mult (.bi Bi.int (.cons (.bin .Add (.idx (.var 0) (.c (.int 3))) (.bin .Mult (.c (.int 7919)) (.idx (.var 0) (.c (.int 4))))) .nil)) (.c (.int 40692))) .nil)) (.c (.int 2147483647))))
    (.cons (.set 4 (.bin .Mod (.bi Bi.int (.cons (.bin .Mult (.var 4) (.bin .Add (.bin .FloorDiv (.var 4) (.c (.int 1009))) (.c (.int 69621)))) .nil)) (.c (.int 2147483647))))
    (.cons (.set 4 (.bin .Mod (.bi Bi.int (.cons (.bin .Mult (.var 4) (.bin .Add (.bin .FloorDiv (.var 4) (.c (.int 2003))) (.c (.int 40014)))) .nil)) (.c (.int 2147483563))))
    (.cons (.ret (.bin .Mod (.bi Bi.int (.cons (.bin .FloorDiv (.var 4) (.c (.int 16))) .nil)) (.var 1)))
    .nil)))))))
def b12 : B :=
    (.cons (.ret (.idx (.var 1) (.call 11 (.cons (.var 0) (.cons (.bi Bi.len (.cons (.var 1) .nil)) .nil)))))
    .nil)
def b13 : B :=
    (.cons (.ret (.bi Bi.tup (.cons (.comp [2] (.n 2) (.range (.cons (.var 0) .nil)) (.c (.bl true)) (.bi Bi.tup (.cons (.comp [1] (.n 1) (.range (.cons (.var 0) .nil)) (.c (.bl true)) (.bin .Mod (.bi Bi.int (.cons (.bin .Add (.var 2) (.var 1)) .nil)) (.var 0))) .nil))) .nil)))
    .nil)
def b14 : B :=
    (.cons (.set 2 (.alloc (.lst .nil)))
    (.cons (.for (.n 3) (.range (.cons (.bin .Mult (.c (.int 2)) (.var 0)) .nil)) [3, 4, 5, 6, 7, 8]
    (.cons (.set 4 (.alloc (.lst .nil)))
    (.cons (.for (.n 5) (.range (.cons (.bin .Mult (.c (.int 2)) (.var 0)) .nil)) [5, 6, 7, 8]
    (.cons (.set 6 (.ite (.cmp .Lt (.var 3) (.var 0)) (.c (.int 1)) (.neg (.c (.int 1)))))
    (.cons (.set 7 (.bin .Add (.bin .Mod (.bi Bi.int (.cons (.var 3) .nil)) (.var 0)) (.bin .Mult (.var 6) (.bin .Mod (.bi Bi.int (.cons (.var 5) .nil)) (.var 0)))))
    (.cons (.ite (.and (.cmp .GtE (.var 3) (.var 0)) (.cmp .GtE (.var 5) (.var 0)))
    (.cons (.set 7 (.bin .Add (.var 7) (.var 1)))
    .nil)
    .nil)
    (.cons (.set 8 (.bin .Mult (.var 0) (.bi Bi.int (.cons (.cmp .NotEq (.cmp .GtE (.var 3) (.var 0)) (.cmp .GtE (.var 5) (.var 0))) .nil))))
    (.cons (.ex (.mut Mt.append (.var 4) (.cons (.bin .Add (.bin .Mod (.bi Bi.int (.cons (.var 7) .nil)) (.var 0)) (.var 8)) .nil)))
    .nil))))))
    (.cons (.ex (.mut Mt.append (.var 2) (.cons (.bi Bi.tup (.cons (.var 4) .nil)) .nil)))
    .nil))))
    (.cons (.ret (.bi Bi.tup (.cons (.var 2) .nil)))
    .nil)))
def b15 : B :=
    (.cons (.par (.cons (.n 2) (.cons (.n 3) .nil)) (.cons (.bi Bi.len (.cons (.var 1) .nil)) (.cons (.alloc (.lst .nil)) .nil)))
    (.cons (.for (.n 4) (.range (.cons (.bin .Mult (.bi Bi.len (.cons (.var 0) .nil)) (.var 2)) .nil)) [4, 5, 6, 7]
    (.cons (.set 5 (.alloc (.lst .nil)))
    (.cons (.for (.n 6) (.range (.cons (.bin .Mult (.bi Bi.len (.cons (.var 0) .nil)) (.var 2)) .nil)) [6, 7]
    (.cons (.set 7 (.bin .Mult (.idx (.idx (.var 0) (.bin .FloorDiv (.var 4) (.var 2))) (.bin .FloorDiv (.var 6) (.var 2))) (.var 2)))
    (.cons (.ex (.mut Mt.append (.var 5) (.cons (.bin .Add (.var 7) (.idx (.idx (.var 1) (.bin .Mod (.bi Bi.int (.cons (.var 4) .nil)) (.var 2))) (.bin .Mod (.bi Bi.int (.cons (.var 6) .nil)) (.var 2)))) .nil)))
    .nil)))
    (.cons (.ex (.mut Mt.append (.var 3) (.cons (.bi Bi.tup (.cons (.var 5) .nil)) .nil)))
    .nil))))
    (.cons (.ret (.bi Bi.tup (.cons (.var 3) .nil)))
    .nil)))
def b16 : B :=
    (.cons (.par (.cons (.n 2) (.cons (.n 3) .nil)) (.cons (.alloc (.coll Bi.lst (.cons (.c (.int 1)) (.cons (.var 1) .nil)))) (.cons (.alloc (.lst (.cons (.c (.int 0)) .nil))) .nil)))
    (.cons (.while (.cmp .NotEq (.var 2) (.lst .nil)) []
    (.cons (.ex (.mut Mt.append (.var 3) (.cons (.mut Mt.pop (.var 2) (.cons (.call 11 (.cons (.var 0) (.cons (.bi Bi.len (.cons (.var 2) .nil)) .nil))) .nil)) .nil)))
    .nil))
    (.cons (.ret (.bi Bi.tup (.cons (.var 3) .nil)))
    .nil)))
def b17 : B :=
    (.cons (.set 2 (.bi Bi.len (.cons (.var 0) .nil)))
    (.cons (.set 3 (.alloc (.comp [4] (.n 4) (.range (.cons (.var 2) .nil)) (.c (.bl true)) (.alloc (.bin .Mult (.lst (.cons (.c (.int 0)) .nil)) (.var 2))))))
    (.cons (.for (.n 5) (.range (.cons (.var 2) .nil)) [5, 6]
    (.cons (.for (.n 6) (.range (.cons (.var 2) .nil)) [6]
    (.cons (.set 4 (.idx (.var 3) (.idx (.var 1) (.var 5))))
    (.cons (.seti (.var 4) (.idx (.var 1) (.var 6)) (.idx (.var 1) (.idx (.idx (.var 0) (.var 5)) (.var 6))))
    .nil)))
    .nil))
    (.cons (.ret (.bi Bi.tup (.cons (.comp [4] (.n 4) (.of (.var 3)) (.c (.bl true)) (.bi Bi.tup (.cons (.var 4) .nil))) .nil)))
    .nil))))
def b18 : B :=
    (.cons (.set 1 (.call 13 (.cons (.c (.int 2)) .nil)))
    (.cons (.set 2 (.lst (.cons (.call 13 (.cons (.bin .Add (.c (.int 1)) (.call 11 (.cons (.var 0) (.cons (.c (.int 8)) .nil)))) .nil)) (.cons (.call 14 (.cons (.c (.int 3)) (.cons (.c (.int 0)) .nil))) (.cons (.call 14 (.cons (.c (.int 4)) (.cons (.c (.int 0)) .nil))) (.cons (.call 14 (.cons (.c (.int 4)) (.cons (.c (.int 2)) .nil))) .nil))))))
    (.cons (.set 2 (.bin .Add (.var 2) (.lst (.cons (.call 15 (.cons (.var 1) (.cons (.var 1) .nil))) (.cons (.call 15 (.cons (.var 1) (.cons (.call 13 (.cons (.c (.int 4)) .nil)) .nil))) (.cons (.call 15 (.cons (.var 1) (.cons (.call 15 (.cons (.var 1) (.cons (.var 1) .nil))) .nil))) .nil))))))
    (.cons (.set 2 (.bin .Add (.var 2) (.lst (.cons (.call 14 (.cons (.c (.int 2)) (.cons (.c (.int 0)) .nil))) .nil))))
    (.cons (.set 3 (.call 12 (.cons (.var 0) (.cons (.var 2) .nil))))
    (.cons (.ret (.call 17 (.cons (.var 3) (.cons (.call 16 (.cons (.var 0) (.cons (.bi Bi.len (.cons (.var 3) .nil)) .nil))) .nil))))
    .nil))))))
def b19 : B :=
    (.cons (.ite (.or (.not (.isi Bi.isTup (.var 0))) (.cmp .NotEq (.bi Bi.len (.cons (.var 0) .nil)) (.var 1)))
    (.cons (.ret (.c (.bl false)))
    .nil)
    .nil)
    (.cons (.ret (.bi Bi.all (.cons (.comp [2] (.n 2) (.of (.var 0)) (.c (.bl true)) (.and (.isi Bi.isInt (.var 2)) (.and (.not (.isi Bi.isBool (.var 2))) (.chain .LtE .Lt (.c (.int 0)) (.var 2) (.var 1))))) .nil)))
    .nil))
def b20 : B :=
    (.cons (.ite (.or (.not (.isi Bi.isTup (.var 0))) (.not (.chain .LtE .LtE (.c (.int 1)) (.bi Bi.len (.cons (.var 0) .nil)) (.c (.int 32)))))
    (.cons (.ret (.c (.str (PySem.Str.ofString "table"))))
    .nil)
    .nil)
    (.cons (.set 1 (.bi Bi.len (.cons (.var 0) .nil)))
    (.cons (.for (.tup (.cons (.n 2) (.cons (.n 3) .nil))) (.enum (.var 0)) [2]
    (.cons (.ite (.not (.call 19 (.cons (.var 3) (.cons (.var 1) .nil))))
    (.cons (.ret (.var 2))
    .nil)
    .nil)
    .nil))
    (.cons (.ite (.bi Bi.any (.cons (.comp [4] (.n 4) (.range (.cons (.var 1) .nil)) (.c (.bl true)) (.or (.cmp .NotEq (.idx (.idx (.var 0) (.c (.int 0))) (.var 4)) (.var 4)) (.cmp .NotEq (.idx (.idx (.var 0) (.var 4)) (.c (.int 0))) (.var 4)))) .nil))
    (.cons (.ret (.c (.str (PySem.Str.ofString "one"))))
    .nil)
    .nil)
    (.cons (.ite (.bi Bi.any (.cons (.comp [3] (.n 3) (.of (.var 0)) (.c (.bl true)) (.cmp .NotIn (.c (.int 0)) (.var 3))) .nil))
    (.cons (.ret (.c (.str (PySem.Str.ofString "backs"))))
    .nil)
    .nil)
    (.cons (.for (.n 5) (.range (.cons (.var 1) .nil)) [5, 6, 7]
    (.cons (.for (.n 6) (.range (.cons (.var 1) .nil)) [6, 7]
    (.cons (.ite (.bi Bi.any (.cons (.comp [7] (.n 7) (.range (.cons (.var 1) .nil)) (.c (.bl true)) (.cmp .NotEq (.idx (.idx (.var 0) (.idx (.idx (.var 0) (.var 5)) (.var 6))) (.var 7)) (.idx (.idx (.var 0) (.var 5)) (.idx (.idx (.var 0) (.var 6)) (.var 7))))) .nil))
    (.cons (.ret (.c (.str (PySem.Str.ofString "threes"))))
    .nil)
    .nil)
    .nil))
    .nil))
    (.cons (.ret (.c .non))
    .nil)))))))
def b21 : B :=
    (.cons (.try (.cons (.ex (.mk 0 (.cons (.var 0) .nil)))
    .nil) 20 (some 1)
    (.cons (.ret (.ite (.exis 1 90) (.exat 1 0) (.c (.str (PySem.Str.ofString "odd")))))
    .nil))
    (.cons (.ret (.c .non))
    .nil))
def b22 : B :=
    (.cons (.set 2 (.bi Bi.len (.cons (.var 1) .nil)))
    (.cons (.par (.cons (.n 3) (.cons (.n 4) (.cons (.n 5) .nil))) (.cons (.call 11 (.cons (.var 0) (.cons (.var 2) .nil))) (.cons (.call 11 (.cons (.var 0) (.cons (.var 2) .nil))) (.cons (.call 11 (.cons (.var 0) (.cons (.var 2) .nil))) .nil))))
    (.cons (.set 6 (.idx (.var 1) (.var 3)))
    (.cons (.set 7 (.call 12 (.cons (.var 0) (.cons (.lst (.cons (.var 2) (.cons (.neg (.c (.int 1))) (.cons (.c .non) (.cons (.c (.bl true)) (.cons (.c (.str (PySem.Str.ofString "0"))) (.cons (.c (.int 0)) (.cons (.var 5) (.cons (.idx (.var 6) (.var 5)) .nil))))))))) .nil))))
    (.cons (.set 8 (.bin .Add (.bin .Mult (.lst (.cons (.bin .Add (.bin .Add (.sl false true (.var 6) (.c .non) (.var 4)) (.tup (.cons (.var 7) .nil))) (.sl true false (.var 6) (.bin .Add (.var 4) (.c (.int 1))) (.c .non))) .nil)) (.c (.int 3))) (.lst (.cons (.sl false true (.var 6) (.c .non) (.neg (.c (.int 1)))) (.cons (.bin .Add (.var 6) (.tup (.cons (.c (.int 0)) .nil))) (.cons (.bi Bi.lst (.cons (.var 6) .nil)) (.cons (.rev (.var 6)) (.cons (.c .non) (.cons (.idx (.var 1) (.var 5)) .nil)))))))))
    (.cons (.set 9 (.alloc (.bi Bi.lst (.cons (.var 6) .nil))))
    (.cons (.parS (.cons (.var 9) (.cons (.var 9) .nil)) (.cons (.var 4) (.cons (.var 5) .nil)) (.cons (.idx (.var 9) (.var 5)) (.cons (.idx (.var 9) (.var 4)) .nil)))
    (.cons (.set 10 (.bin .Mult (.comp [11] (.n 11) (.of (.bin .Add (.var 8) (.lst (.cons (.bi Bi.tup (.cons (.var 9) .nil)) .nil)))) (.c (.bl true)) (.bin .Add (.bin .Add (.sl false true (.var 1) (.c .non) (.var 3)) (.tup (.cons (.var 11) .nil))) (.sl true false (.var 1) (.bin .Add (.var 3) (.c (.int 1))) (.c .non)))) (.c (.int 2))))
    (.cons (.set 10 (.bin .Add (.var 10) (.lst (.cons (.bi Bi.lst (.cons (.var 1) .nil)) (.cons (.sl true false (.var 1) (.c (.int 1)) (.c .non)) (.cons (.bin .Add (.var 1) (.sl false true (.var 1) (.c .non) (.c (.int 1)))) (.cons (.c .non) (.cons (.tup .nil) (.cons (.c (.int 0)) (.cons (.c (.dct [])) (.cons (.rev (.var 1)) (.cons (.bin .Mult (.tup (.cons (.coll Bi.tup (.cons (.c (.int 33)) .nil)) .nil)) (.c (.int 33))) .nil))))))))))))
    (.cons (.set 12 (.bi Bi.tup (.cons (.comp [14] (.n 14) (.range (.cons (.var 2) .nil)) (.c (.bl true)) (.bi Bi.tup (.cons (.comp [13] (.n 13) (.range (.cons (.var 2) .nil)) (.c (.bl true)) (.bi Bi.max (.cons (.var 14) (.cons (.var 13) .nil)))) .nil))) .nil)))
    (.cons (.set 15 (.bi Bi.tup (.cons (.comp [14] (.n 14) (.range (.cons (.var 2) .nil)) (.c (.bl true)) (.bi Bi.tup (.cons (.comp [13] (.n 13) (.range (.cons (.var 2) .nil)) (.c (.bl true)) (.bi Bi.abs (.cons (.bin .Sub (.var 14) (.var 13)) .nil))) .nil))) .nil)))
    (.cons (.ret (.call 12 (.cons (.var 0) (.cons (.bin .Add (.var 10) (.lst (.cons (.var 12) (.cons (.var 15) .nil)))) .nil))))
    .nil))))))))))))
def b23 : B :=
    (.cons (.try (.cons (.ex .thk)
    .nil) 90 (some 1)
    (.cons (.ret (.and (.exis 1 21) (.exis 1 91)))
    .nil))
    (.cons (.ret (.c (.bl false)))
    .nil))
def b24 : B :=
    (.cons (.set 1 (.alloc (.call 10 (.cons (.var 0) .nil))))
    (.cons (.for (.n 2) (.range (.cons (.c (.int 4)) .nil)) [2, 3, 4, 5, 6, 7, 8, 9, 10, 11, 12, 13]
    (.cons (.set 3 (.call 18 (.cons (.var 1) .nil)))
    (.cons (.par (.cons (.n 4) (.cons (.n 5) .nil)) (.cons (.mk 0 (.cons (.var 3) .nil)) (.cons (.bi Bi.len (.cons (.var 3) .nil)) .nil)))
    (.cons (.ite (.or (.cmp .NotEq (.bi Bi.repr (.cons (.tup (.cons (.attr (.var 4) 1) (.cons (.attr (.var 4) 2) .nil))) .nil)) (.bi Bi.repr (.cons (.tup (.cons (.var 3) (.cons (.var 5) .nil))) .nil))) (.or (.cmp .NotEq (.var 4) (.mk 0 (.cons (.var 3) .nil))) (.cmp .Eq (.var 4) (.var 3))))
    (.cons (.ret (.c (.bl false)))
    .nil)
    .nil)
    (.cons (.ite (.or (.cmp .NotEq (.bi Bi.lst (.cons (.attr (.var 4) 3) .nil)) (.comp [6] (.n 6) (.of (.var 3)) (.c (.bl true)) (.mth Mt.index (.var 6) (.cons (.c (.int 0)) .nil)))) (.cmp .Eq (.var 4) (.mk 0 (.cons (.call 13 (.cons (.c (.int 9)) .nil)) .nil))))
    (.cons (.ret (.c (.bl false)))
    .nil)
    .nil)
    (.cons (.for (.n 7) (.of (.comp [8] (.n 8) (.range (.cons (.c (.int 8)) .nil)) (.c (.bl true)) (.call 22 (.cons (.var 1) (.cons (.var 3) .nil))))) [8, 9]
    (.cons (.set 9 (.call 20 (.cons (.var 7) .nil)))
    (.cons (.ite (.or (.cmp .NotEq (.bi Bi.repr (.cons (.call 21 (.cons (.var 7) .nil)) .nil)) (.bi Bi.repr (.cons (.var 9) .nil))) (.cmp .NotEq (.bi Bi.repr (.cons (.call 9 (.cons (.var 7) .nil)) .nil)) (.bi Bi.repr (.cons (.isc false (.var 9) .non) .nil))))
    (.cons (.ret (.c (.bl false)))
    .nil)
    .nil)
    .nil)))
    (.cons (.set 10 (.call 16 (.cons (.var 1) (.cons (.var 5) .nil))))
    (.cons (.set 11 (.call 8 (.cons (.var 4) (.cons (.var 10) .nil))))
    (.cons (.ite (.or (.cmp .NotEq (.var 11) (.mk 0 (.cons (.call 17 (.cons (.var 3) (.cons (.var 10) .nil))) .nil))) (.isc true (.call 7 (.cons (.var 4) (.cons (.var 10) .nil))) (.bl true)))
    (.cons (.ret (.c (.bl false)))
    .nil)
    .nil)
    (.cons (.set 12 (.lst (.cons (.rev (.var 10)) (.cons (.bin .Add (.var 10) (.tup (.cons (.var 5) .nil))) (.cons (.bi Bi.lst (.cons (.var 10) .nil)) (.cons (.sl false true (.var 10) (.c .non) (.neg (.c (.int 1)))) (.cons (.c .non) (.cons (.var 10) .nil))))))))
    (.cons (.for (.n 7) (.of (.bin .Add (.var 12) (.lst (.cons (.bin .Mult (.tup (.cons (.c (.int 0)) .nil)) (.var 5)) (.cons (.c (.dct [])) (.cons (.bin .Mult (.tup (.cons (.c (.bl true)) .nil)) (.var 5)) .nil)))))) [13]
    (.cons (.set 13 (.and (.call 19 (.cons (.var 7) (.cons (.var 5) .nil))) (.and (.cmp .Eq (.bi Bi.sorted (.cons (.var 7) .nil)) (.coll Bi.lst (.cons (.var 5) .nil))) (.cmp .Eq (.idx (.var 7) (.c (.int 0))) (.c (.int 0))))))
    (.cons (.ite (.cmp .NotEq (.bi Bi.repr (.cons (.call 7 (.cons (.var 4) (.cons (.var 7) .nil))) .nil)) (.bi Bi.repr (.cons (.var 13) .nil)))
    (.cons (.ret (.c (.bl false)))
    .nil)
    .nil)
    (.cons (.ite (.and (.not (.var 13)) (.not (.lam 23 0 (PySem.Str.ofString "law.<locals>.<lambda>") (.call 8 (.cons (.var 4) (.cons (.var 7) .nil))))))
    (.cons (.ret (.c (.bl false)))
    .nil)
    .nil)
    .nil))))
    .nil)))))))))))
    (.cons (.ret (.c (.bl true)))
    .nil)))
def fn : Nat → Option Fn
  | 0 => some ⟨1, 1, b0⟩
  | 1 => some ⟨3, 3, b1⟩
  | 2 => some ⟨3, 3, b2⟩
  | 3 => some ⟨2, 6, b3⟩
  | 4 => some ⟨2, 2, b4⟩
  | 5 => some ⟨1, 5, b5⟩
  | 6 => some ⟨2, 7, b6⟩
  | 7 => some ⟨2, 3, b7⟩
  | 8 => some ⟨2, 2, b8⟩
  | 9 => some ⟨1, 1, b9⟩
  | 10 => some ⟨1, 3, b10⟩
  | 11 => some ⟨2, 5, b11⟩
  | 12 => some ⟨2, 2, b12⟩
  | 13 => some ⟨1, 3, b13⟩
  | 14 => some ⟨2, 9, b14⟩
  | 15 => some ⟨2, 8, b15⟩
  | 16 => some ⟨2, 4, b16⟩
  | 17 => some ⟨2, 7, b17⟩
  | 18 => some ⟨1, 4, b18⟩
  | 19 => some ⟨2, 3, b19⟩
  | 20 => some ⟨1, 8, b20⟩
  | 21 => some ⟨1, 2, b21⟩
  | 22 => some ⟨2, 16, b22⟩
  | 23 => some ⟨0, 2, b23⟩
  | 24 => some ⟨1, 14, b24⟩
  | _ => none
def cl : Nat → Option Cl
  | 0 => some ⟨some 3, some 4, false, none⟩
  | 20 => some ⟨none, none, false, some [0]⟩
  | 21 => some ⟨none, none, false, some []⟩
  | _ => none
def sub (k c : Nat) : Bool := k == c || c == 90 || c == 91
def nat0 : Nat → Option (Nat × (List W → List Ob → R Val)) := fun _ => none
def T : Tab := ⟨fn, cl, sub, nat0⟩
def pg : Pg where
  fns := [((PySem.Str.ofString "is_integer"), 0), ((PySem.Str.ofString "is_within"), 1), ((PySem.Str.ofString "is_tuple"), 2), ((PySem.Str.ofString "goes_together"), 5), ((PySem.Str.ofString "renamed_by"), 6), ((PySem.Str.ofString "is_names"), 7), ((PySem.Str.ofString "renamed"), 8), ((PySem.Str.ofString "is_table"), 9), ((PySem.Str.ofString "_law_hand"), 10), ((PySem.Str.ofString "_law_draw"), 11), ((PySem.Str.ofString "_law_any"), 12), ((PySem.Str.ofString "_law_ring"), 13), ((PySem.Str.ofString "_law_flips"), 14), ((PySem.Str.ofString "_law_pairs"), 15), ((PySem.Str.ofString "_law_names"), 16), ((PySem.Str.ofString "_law_called"), 17), ((PySem.Str.ofString "_law_table"), 18), ((PySem.Str.ofString "_law_is_row"), 19), ((PySem.Str.ofString "_law_fault"), 20), ((PySem.Str.ofString "_law_made"), 21), ((PySem.Str.ofString "_law_bent"), 22), ((PySem.Str.ofString "law"), 24)]
  cls := [((PySem.Str.ofString "Group"), 0)]
  ers := [((PySem.Str.ofString "BadGroup"), (20, some 0)), ((PySem.Str.ofString "NoMember"), (21, none))]
  exc := [((PySem.Str.ofString "BadGroup"), 20), ((PySem.Str.ofString "NoMember"), 21), ((PySem.Str.ofString "GroupError"), 90), ((PySem.Str.ofString "ValueError"), 91)]
  ks := [((PySem.Str.ofString "MOST_MEMBERS"), 32)]
  free := [(PySem.Str.ofString "abs"), (PySem.Str.ofString "all"), (PySem.Str.ofString "any"), (PySem.Str.ofString "bool"), (PySem.Str.ofString "enumerate"), (PySem.Str.ofString "int"), (PySem.Str.ofString "isinstance"), (PySem.Str.ofString "len"), (PySem.Str.ofString "list"), (PySem.Str.ofString "max"), (PySem.Str.ofString "range"), (PySem.Str.ofString "repr"), (PySem.Str.ofString "sorted"), (PySem.Str.ofString "tuple")]
  names := [(PySem.Str.ofString "part"), (PySem.Str.ofString "table"), (PySem.Str.ofString "many"), (PySem.Str.ofString "backs")]
  thk := [((PySem.Str.ofString "_law_is_refused"), 23)]
def sta : Sta where
  clss := pg.cls
  eqs := [0]
  errs := pg.ers
  exc := pg.exc
  names := pg.names
  tf := [((PySem.Str.ofString "law"), none)]
abbrev s0 : Stmt := top 1
def d0 : DefS where
  d := ⟨((PySem.Str.ofString "is_integer"), none), (PySem.Str.ofString "is_integer"), (PySem.Str.ofString "is_integer"), defArgs s0, defBody s0, defScope s0, [], []⟩
  ix := 0
  N := [(PySem.Str.ofString "thing")]
  ps := [(PySem.Str.ofString "thing")]
  lam := none
abbrev s1 : Stmt := top 2
def d1 : DefS where
  d := ⟨((PySem.Str.ofString "is_within"), none), (PySem.Str.ofString "is_within"), (PySem.Str.ofString "is_within"), defArgs s1, defBody s1, defScope s1, [], []⟩
  ix := 1
  N := [(PySem.Str.ofString "thing"), (PySem.Str.ofString "least"), (PySem.Str.ofString "most")]
  ps := [(PySem.Str.ofString "thing"), (PySem.Str.ofString "least"), (PySem.Str.ofString "most")]
  lam := none
abbrev s2 : Stmt := top 3
def d2 : DefS where
  d := ⟨((PySem.Str.ofString "is_tuple"), none), (PySem.Str.ofString "is_tuple"), (PySem.Str.ofString "is_tuple"), defArgs s2, defBody s2, defScope s2, [], []⟩
  ix := 2
  N := [(PySem.Str.ofString "thing"), (PySem.Str.ofString "least"), (PySem.Str.ofString "most")]
  ps := [(PySem.Str.ofString "thing"), (PySem.Str.ofString "least"), (PySem.Str.ofString "most")]
  lam := none
abbrev s3 : Stmt := mt 10 0
def d3 : DefS where
  d := ⟨((PySem.Str.ofString "Group"), some (PySem.Str.ofString "__init__")), (PySem.Str.ofString "__init__"), (PySem.Str.ofString "Group.__init__"), defArgs s3, defBody s3, defScope s3, [], []⟩
  ix := 3
  N := [(PySem.Str.ofString "self"), (PySem.Str.ofString "table"), (PySem.Str.ofString "many"), (PySem.Str.ofString "number"), (PySem.Str.ofString "row"), (PySem.Str.ofString "one")]
  ps := [(PySem.Str.ofString "self"), (PySem.Str.ofString "table")]
  lam := none
abbrev s4 : Stmt := mt 10 1
def d4 : DefS where
  d := ⟨((PySem.Str.ofString "Group"), some (PySem.Str.ofString "__eq__")), (PySem.Str.ofString "__eq__"), (PySem.Str.ofString "Group.__eq__"), defArgs s4, defBody s4, defScope s4, [], []⟩
  ix := 4
  N := [(PySem.Str.ofString "self"), (PySem.Str.ofString "other")]
  ps := [(PySem.Str.ofString "self"), (PySem.Str.ofString "other")]
  lam := none
abbrev s5 : Stmt := top 11
def d5 : DefS where
  d := ⟨((PySem.Str.ofString "goes_together"), none), (PySem.Str.ofString "goes_together"), (PySem.Str.ofString "goes_together"), defArgs s5, defBody s5, defScope s5, [], []⟩
  ix := 5
  N := [(PySem.Str.ofString "table"), (PySem.Str.ofString "row"), (PySem.Str.ofString "b"), (PySem.Str.ofString "one"), (PySem.Str.ofString "far")]
  ps := [(PySem.Str.ofString "table")]
  lam := none
abbrev s6 : Stmt := top 12
def d6 : DefS where
  d := ⟨((PySem.Str.ofString "renamed_by"), none), (PySem.Str.ofString "renamed_by"), (PySem.Str.ofString "renamed_by"), defArgs s6, defBody s6, defScope s6, [], []⟩
  ix := 6
  N := [(PySem.Str.ofString "group"), (PySem.Str.ofString "told"), (PySem.Str.ofString "rows"), (PySem.Str.ofString "one"), (PySem.Str.ofString "a"), (PySem.Str.ofString "b"), (PySem.Str.ofString "row")]
  ps := [(PySem.Str.ofString "group"), (PySem.Str.ofString "told")]
  lam := none
abbrev s7 : Stmt := top 13
def d7 : DefS where
  d := ⟨((PySem.Str.ofString "is_names"), none), (PySem.Str.ofString "is_names"), (PySem.Str.ofString "is_names"), defArgs s7, defBody s7, defScope s7, [], []⟩
  ix := 7
  N := [(PySem.Str.ofString "group"), (PySem.Str.ofString "thing"), (PySem.Str.ofString "one")]
  ps := [(PySem.Str.ofString "group"), (PySem.Str.ofString "thing")]
  lam := none
abbrev s8 : Stmt := top 14
def d8 : DefS where
  d := ⟨((PySem.Str.ofString "renamed"), none), (PySem.Str.ofString "renamed"), (PySem.Str.ofString "renamed"), defArgs s8, defBody s8, defScope s8, [], []⟩
  ix := 8
  N := [(PySem.Str.ofString "group"), (PySem.Str.ofString "told")]
  ps := [(PySem.Str.ofString "group"), (PySem.Str.ofString "told")]
  lam := none
abbrev s9 : Stmt := top 15
def d9 : DefS where
  d := ⟨((PySem.Str.ofString "is_table"), none), (PySem.Str.ofString "is_table"), (PySem.Str.ofString "is_table"), defArgs s9, defBody s9, defScope s9, [], []⟩
  ix := 9
  N := [(PySem.Str.ofString "thing")]
  ps := [(PySem.Str.ofString "thing")]
  lam := none
abbrev s10 : Stmt := top 17
def d10 : DefS where
  d := ⟨((PySem.Str.ofString "_law_hand"), none), (PySem.Str.ofString "_law_hand"), (PySem.Str.ofString "_law_hand"), defArgs s10, defBody s10, defScope s10, [], []⟩
  ix := 10
  N := [(PySem.Str.ofString "script"), (PySem.Str.ofString "number_row"), (PySem.Str.ofString "cell")]
  ps := [(PySem.Str.ofString "script")]
  lam := none
abbrev s11 : Stmt := top 18
def d11 : DefS where
  d := ⟨((PySem.Str.ofString "_law_draw"), none), (PySem.Str.ofString "_law_draw"), (PySem.Str.ofString "_law_draw"), defArgs s11, defBody s11, defScope s11, [], []⟩
  ix := 11
  N := [(PySem.Str.ofString "hand"), (PySem.Str.ofString "many"), (PySem.Str.ofString "cell"), (PySem.Str.ofString "digit"), (PySem.Str.ofString "number")]
  ps := [(PySem.Str.ofString "hand"), (PySem.Str.ofString "many")]
  lam := none
abbrev s12 : Stmt := top 19
def d12 : DefS where
  d := ⟨((PySem.Str.ofString "_law_any"), none), (PySem.Str.ofString "_law_any"), (PySem.Str.ofString "_law_any"), defArgs s12, defBody s12, defScope s12, [], []⟩
  ix := 12
  N := [(PySem.Str.ofString "hand"), (PySem.Str.ofString "some")]
  ps := [(PySem.Str.ofString "hand"), (PySem.Str.ofString "some")]
  lam := none
abbrev s13 : Stmt := top 20
def d13 : DefS where
  d := ⟨((PySem.Str.ofString "_law_ring"), none), (PySem.Str.ofString "_law_ring"), (PySem.Str.ofString "_law_ring"), defArgs s13, defBody s13, defScope s13, [], []⟩
  ix := 13
  N := [(PySem.Str.ofString "many"), (PySem.Str.ofString "other"), (PySem.Str.ofString "one")]
  ps := [(PySem.Str.ofString "many")]
  lam := none
abbrev s14 : Stmt := top 21
def d14 : DefS where
  d := ⟨((PySem.Str.ofString "_law_flips"), none), (PySem.Str.ofString "_law_flips"), (PySem.Str.ofString "_law_flips"), defArgs s14, defBody s14, defScope s14, [], []⟩
  ix := 14
  N := [(PySem.Str.ofString "many"), (PySem.Str.ofString "half"), (PySem.Str.ofString "found"), (PySem.Str.ofString "one"), (PySem.Str.ofString "row"), (PySem.Str.ofString "other"), (PySem.Str.ofString "sign"), (PySem.Str.ofString "turned_by"), (PySem.Str.ofString "part")]
  ps := [(PySem.Str.ofString "many"), (PySem.Str.ofString "half")]
  lam := none
abbrev s15 : Stmt := top 22
def d15 : DefS where
  d := ⟨((PySem.Str.ofString "_law_pairs"), none), (PySem.Str.ofString "_law_pairs"), (PySem.Str.ofString "_law_pairs"), defArgs s15, defBody s15, defScope s15, [], []⟩
  ix := 15
  N := [(PySem.Str.ofString "one"), (PySem.Str.ofString "other"), (PySem.Str.ofString "size"), (PySem.Str.ofString "found"), (PySem.Str.ofString "a"), (PySem.Str.ofString "row"), (PySem.Str.ofString "b"), (PySem.Str.ofString "first")]
  ps := [(PySem.Str.ofString "one"), (PySem.Str.ofString "other")]
  lam := none
abbrev s16 : Stmt := top 23
def d16 : DefS where
  d := ⟨((PySem.Str.ofString "_law_names"), none), (PySem.Str.ofString "_law_names"), (PySem.Str.ofString "_law_names"), defArgs s16, defBody s16, defScope s16, [], []⟩
  ix := 16
  N := [(PySem.Str.ofString "hand"), (PySem.Str.ofString "many"), (PySem.Str.ofString "left"), (PySem.Str.ofString "found")]
  ps := [(PySem.Str.ofString "hand"), (PySem.Str.ofString "many")]
  lam := none
abbrev s17 : Stmt := top 24
def d17 : DefS where
  d := ⟨((PySem.Str.ofString "_law_called"), none), (PySem.Str.ofString "_law_called"), (PySem.Str.ofString "_law_called"), defArgs s17, defBody s17, defScope s17, [], []⟩
  ix := 17
  N := [(PySem.Str.ofString "table_here"), (PySem.Str.ofString "names_here"), (PySem.Str.ofString "many"), (PySem.Str.ofString "found"), (PySem.Str.ofString "row"), (PySem.Str.ofString "one"), (PySem.Str.ofString "other")]
  ps := [(PySem.Str.ofString "table_here"), (PySem.Str.ofString "names_here")]
  lam := none
abbrev s18 : Stmt := top 25
def d18 : DefS where
  d := ⟨((PySem.Str.ofString "_law_table"), none), (PySem.Str.ofString "_law_table"), (PySem.Str.ofString "_law_table"), defArgs s18, defBody s18, defScope s18, [], []⟩
  ix := 18
  N := [(PySem.Str.ofString "hand"), (PySem.Str.ofString "two"), (PySem.Str.ofString "some"), (PySem.Str.ofString "found")]
  ps := [(PySem.Str.ofString "hand")]
  lam := none
abbrev s19 : Stmt := top 26
def d19 : DefS where
  d := ⟨((PySem.Str.ofString "_law_is_row"), none), (PySem.Str.ofString "_law_is_row"), (PySem.Str.ofString "_law_is_row"), defArgs s19, defBody s19, defScope s19, [], []⟩
  ix := 19
  N := [(PySem.Str.ofString "thing"), (PySem.Str.ofString "many"), (PySem.Str.ofString "one")]
  ps := [(PySem.Str.ofString "thing"), (PySem.Str.ofString "many")]
  lam := none
abbrev s20 : Stmt := top 27
def d20 : DefS where
  d := ⟨((PySem.Str.ofString "_law_fault"), none), (PySem.Str.ofString "_law_fault"), (PySem.Str.ofString "_law_fault"), defArgs s20, defBody s20, defScope s20, [], []⟩
  ix := 20
  N := [(PySem.Str.ofString "thing"), (PySem.Str.ofString "many"), (PySem.Str.ofString "at"), (PySem.Str.ofString "row"), (PySem.Str.ofString "one"), (PySem.Str.ofString "a"), (PySem.Str.ofString "b"), (PySem.Str.ofString "c")]
  ps := [(PySem.Str.ofString "thing")]
  lam := none
abbrev s21 : Stmt := top 28
def d21 : DefS where
  d := ⟨((PySem.Str.ofString "_law_made"), none), (PySem.Str.ofString "_law_made"), (PySem.Str.ofString "_law_made"), defArgs s21, defBody s21, defScope s21, [], []⟩
  ix := 21
  N := [(PySem.Str.ofString "thing"), (PySem.Str.ofString "error")]
  ps := [(PySem.Str.ofString "thing")]
  lam := none
abbrev s22 : Stmt := top 29
def d22 : DefS where
  d := ⟨((PySem.Str.ofString "_law_bent"), none), (PySem.Str.ofString "_law_bent"), (PySem.Str.ofString "_law_bent"), defArgs s22, defBody s22, defScope s22, [], []⟩
  ix := 22
  N := [(PySem.Str.ofString "hand"), (PySem.Str.ofString "thing"), (PySem.Str.ofString "many"), (PySem.Str.ofString "at"), (PySem.Str.ofString "to"), (PySem.Str.ofString "other"), (PySem.Str.ofString "row"), (PySem.Str.ofString "odd"), (PySem.Str.ofString "rows"), (PySem.Str.ofString "swapped"), (PySem.Str.ofString "some"), (PySem.Str.ofString "line"), (PySem.Str.ofString "powers"), (PySem.Str.ofString "two"), (PySem.Str.ofString "one"), (PySem.Str.ofString "far")]
  ps := [(PySem.Str.ofString "hand"), (PySem.Str.ofString "thing")]
  lam := none
abbrev s23 : Stmt := top 30
def d23 : DefS where
  d := ⟨((PySem.Str.ofString "_law_is_refused"), none), (PySem.Str.ofString "_law_is_refused"), (PySem.Str.ofString "_law_is_refused"), defArgs s23, defBody s23, defScope s23, [], []⟩
  ix := 23
  N := [(PySem.Str.ofString "call"), (PySem.Str.ofString "error")]
  ps := [(PySem.Str.ofString "call")]
  lam := none
abbrev s24 : Stmt := top 31
def d24 : DefS where
  d := ⟨((PySem.Str.ofString "law"), none), (PySem.Str.ofString "law"), (PySem.Str.ofString "law"), defArgs s24, defBody s24, defScope s24, [], []⟩
  ix := 24
  N := [(PySem.Str.ofString "script"), (PySem.Str.ofString "hand"), (PySem.Str.ofString "turn"), (PySem.Str.ofString "thing"), (PySem.Str.ofString "group"), (PySem.Str.ofString "many"), (PySem.Str.ofString "row"), (PySem.Str.ofString "bent"), (PySem.Str.ofString "again"), (PySem.Str.ofString "fault"), (PySem.Str.ofString "told_here"), (PySem.Str.ofString "other"), (PySem.Str.ofString "bents"), (PySem.Str.ofString "is_one")]
  ps := [(PySem.Str.ofString "script")]
  lam := some 0
theorem t0 : DefT pg T sta d0 := ⟨⟨rfl, rfl, rfl, by decide +kernel, rfl, by decide +kernel, by decide +kernel⟩, fun _ _ _ _ _ _ us hl => match us, hl with | [_], _ => rfl, rfl, fun j h => by cases h <;> rfl, ⟨_, rfl, rfl, rfl, rfl, by decide +kernel⟩⟩
theorem t1 : DefT pg T sta d1 := ⟨⟨rfl, rfl, rfl, by decide +kernel, rfl, by decide +kernel, by decide +kernel⟩, fun _ _ _ _ _ _ us hl => match us, hl with | [_, _, _], _ => rfl, rfl, fun j h => by cases h <;> rfl, ⟨_, rfl, rfl, rfl, rfl, by decide +kernel⟩⟩
theorem t2 : DefT pg T sta d2 := ⟨⟨rfl, rfl, rfl, by decide +kernel, rfl, by decide +kernel, by decide +kernel⟩, fun _ _ _ _ _ _ us hl => match us, hl with | [_, _, _], _ => rfl, rfl, fun j h => by cases h <;> rfl, ⟨_, rfl, rfl, rfl, rfl, by decide +kernel⟩⟩
theorem t3 : DefT pg T sta d3 := ⟨⟨rfl, rfl, rfl, by decide +kernel, rfl, by decide +kernel, by decide +kernel⟩, fun _ _ _ _ _ _ us hl => match us, hl with | [_, _], _ => rfl, rfl, fun j h => by cases h <;> rfl, ⟨_, rfl, rfl, rfl, rfl, by decide +kernel⟩⟩
theorem t4 : DefT pg T sta d4 := ⟨⟨rfl, rfl, rfl, by decide +kernel, rfl, by decide +kernel, by decide +kernel⟩, fun _ _ _ _ _ _ us hl => match us, hl with | [_, _], _ => rfl, rfl, fun j h => by cases h <;> rfl, ⟨_, rfl, rfl, rfl, rfl, by decide +kernel⟩⟩
theorem t5 : DefT pg T sta d5 := ⟨⟨rfl, rfl, rfl, by decide +kernel, rfl, by decide +kernel, by decide +kernel⟩, fun _ _ _ _ _ _ us hl => match us, hl with | [_], _ => rfl, rfl, fun j h => by cases h <;> rfl, ⟨_, rfl, rfl, rfl, rfl, by decide +kernel⟩⟩
theorem t6 : DefT pg T sta d6 := ⟨⟨rfl, rfl, rfl, by decide +kernel, rfl, by decide +kernel, by decide +kernel⟩, fun _ _ _ _ _ _ us hl => match us, hl with | [_, _], _ => rfl, rfl, fun j h => by cases h <;> rfl, ⟨_, rfl, rfl, rfl, rfl, by decide +kernel⟩⟩
theorem t7 : DefT pg T sta d7 := ⟨⟨rfl, rfl, rfl, by decide +kernel, rfl, by decide +kernel, by decide +kernel⟩, fun _ _ _ _ _ _ us hl => match us, hl with | [_, _], _ => rfl, rfl, fun j h => by cases h <;> rfl, ⟨_, rfl, rfl, rfl, rfl, by decide +kernel⟩⟩
theorem t8 : DefT pg T sta d8 := ⟨⟨rfl, rfl, rfl, by decide +kernel, rfl, by decide +kernel, by decide +kernel⟩, fun _ _ _ _ _ _ us hl => match us, hl with | [_, _], _ => rfl, rfl, fun j h => by cases h <;> rfl, ⟨_, rfl, rfl, rfl, rfl, by decide +kernel⟩⟩
theorem t9 : DefT pg T sta d9 := ⟨⟨rfl, rfl, rfl, by decide +kernel, rfl, by decide +kernel, by decide +kernel⟩, fun _ _ _ _ _ _ us hl => match us, hl with | [_], _ => rfl, rfl, fun j h => by cases h <;> rfl, ⟨_, rfl, rfl, rfl, rfl, by decide +kernel⟩⟩
theorem t10 : DefT pg T sta d10 := ⟨⟨rfl, rfl, rfl, by decide +kernel, rfl, by decide +kernel, by decide +kernel⟩, fun _ _ _ _ _ _ us hl => match us, hl with | [_], _ => rfl, rfl, fun j h => by cases h <;> rfl, ⟨_, rfl, rfl, rfl, rfl, by decide +kernel⟩⟩
theorem t11 : DefT pg T sta d11 := ⟨⟨rfl, rfl, rfl, by decide +kernel, rfl, by decide +kernel, by decide +kernel⟩, fun _ _ _ _ _ _ us hl => match us, hl with | [_, _], _ => rfl, rfl, fun j h => by cases h <;> rfl, ⟨_, rfl, rfl, rfl, rfl, by decide +kernel⟩⟩
theorem t12 : DefT pg T sta d12 := ⟨⟨rfl, rfl, rfl, by decide +kernel, rfl, by decide +kernel, by decide +kernel⟩, fun _ _ _ _ _ _ us hl => match us, hl with | [_, _], _ => rfl, rfl, fun j h => by cases h <;> rfl, ⟨_, rfl, rfl, rfl, rfl, by decide +kernel⟩⟩
theorem t13 : DefT pg T sta d13 := ⟨⟨rfl, rfl, rfl, by decide +kernel, rfl, by decide +kernel, by decide +kernel⟩, fun _ _ _ _ _ _ us hl => match us, hl with | [_], _ => rfl, rfl, fun j h => by cases h <;> rfl, ⟨_, rfl, rfl, rfl, rfl, by decide +kernel⟩⟩
theorem t14 : DefT pg T sta d14 := ⟨⟨rfl, rfl, rfl, by decide +kernel, rfl, by decide +kernel, by decide +kernel⟩, fun _ _ _ _ _ _ us hl => match us, hl with | [_, _], _ => rfl, rfl, fun j h => by cases h <;> rfl, ⟨_, rfl, rfl, rfl, rfl, by decide +kernel⟩⟩
theorem t15 : DefT pg T sta d15 := ⟨⟨rfl, rfl, rfl, by decide +kernel, rfl, by decide +kernel, by decide +kernel⟩, fun _ _ _ _ _ _ us hl => match us, hl with | [_, _], _ => rfl, rfl, fun j h => by cases h <;> rfl, ⟨_, rfl, rfl, rfl, rfl, by decide +kernel⟩⟩
theorem t16 : DefT pg T sta d16 := ⟨⟨rfl, rfl, rfl, by decide +kernel, rfl, by decide +kernel, by decide +kernel⟩, fun _ _ _ _ _ _ us hl => match us, hl with | [_, _], _ => rfl, rfl, fun j h => by cases h <;> rfl, ⟨_, rfl, rfl, rfl, rfl, by decide +kernel⟩⟩
theorem t17 : DefT pg T sta d17 := ⟨⟨rfl, rfl, rfl, by decide +kernel, rfl, by decide +kernel, by decide +kernel⟩, fun _ _ _ _ _ _ us hl => match us, hl with | [_, _], _ => rfl, rfl, fun j h => by cases h <;> rfl, ⟨_, rfl, rfl, rfl, rfl, by decide +kernel⟩⟩
theorem t18 : DefT pg T sta d18 := ⟨⟨rfl, rfl, rfl, by decide +kernel, rfl, by decide +kernel, by decide +kernel⟩, fun _ _ _ _ _ _ us hl => match us, hl with | [_], _ => rfl, rfl, fun j h => by cases h <;> rfl, ⟨_, rfl, rfl, rfl, rfl, by decide +kernel⟩⟩
theorem t19 : DefT pg T sta d19 := ⟨⟨rfl, rfl, rfl, by decide +kernel, rfl, by decide +kernel, by decide +kernel⟩, fun _ _ _ _ _ _ us hl => match us, hl with | [_, _], _ => rfl, rfl, fun j h => by cases h <;> rfl, ⟨_, rfl, rfl, rfl, rfl, by decide +kernel⟩⟩
theorem t20 : DefT pg T sta d20 := ⟨⟨rfl, rfl, rfl, by decide +kernel, rfl, by decide +kernel, by decide +kernel⟩, fun _ _ _ _ _ _ us hl => match us, hl with | [_], _ => rfl, rfl, fun j h => by cases h <;> rfl, ⟨_, rfl, rfl, rfl, rfl, by decide +kernel⟩⟩
theorem t21 : DefT pg T sta d21 := ⟨⟨rfl, rfl, rfl, by decide +kernel, rfl, by decide +kernel, by decide +kernel⟩, fun _ _ _ _ _ _ us hl => match us, hl with | [_], _ => rfl, rfl, fun j h => by cases h <;> rfl, ⟨_, rfl, rfl, rfl, rfl, by decide +kernel⟩⟩
theorem t22 : DefT pg T sta d22 := ⟨⟨rfl, rfl, rfl, by decide +kernel, rfl, by decide +kernel, by decide +kernel⟩, fun _ _ _ _ _ _ us hl => match us, hl with | [_, _], _ => rfl, rfl, fun j h => by cases h <;> rfl, ⟨_, rfl, rfl, rfl, rfl, by decide +kernel⟩⟩
theorem t23 : ThkT pg T d23 (PySem.Str.ofString "call") := ⟨⟨rfl, rfl, rfl, by decide +kernel, rfl, by decide +kernel, by decide +kernel⟩, fun _ _ _ _ _ _ us hl => match us, hl with | [_], _ => rfl, rfl, by decide +kernel, by decide +kernel, ⟨rfl, rfl⟩, ⟨_, rfl, rfl, rfl, rfl, by decide +kernel⟩⟩
theorem t24 : DefT pg T sta d24 := ⟨⟨rfl, rfl, rfl, by decide +kernel, rfl, by decide +kernel, by decide +kernel⟩, fun _ _ _ _ _ _ us hl => match us, hl with | [_], _ => rfl, rfl, fun j h => by cases h <;> rfl, ⟨_, rfl, rfl, rfl, rfl, by decide +kernel⟩⟩
def dss : List DefS := [d0, d1, d2, d3, d4, d5, d6, d7, d8, d9, d10, d11, d12, d13, d14, d15, d16, d17, d18, d19, d20, d21, d22, d24]
def tss : List (DefS × Str) := [(d23, (PySem.Str.ofString "call"))]
theorem dOk : ∀ D ∈ dss, DefT pg T sta D := List.forall_mem_cons.mpr ⟨t0, List.forall_mem_cons.mpr ⟨t1, List.forall_mem_cons.mpr ⟨t2, List.forall_mem_cons.mpr ⟨t3, List.forall_mem_cons.mpr ⟨t4, List.forall_mem_cons.mpr ⟨t5, List.forall_mem_cons.mpr ⟨t6, List.forall_mem_cons.mpr ⟨t7, List.forall_mem_cons.mpr ⟨t8, List.forall_mem_cons.mpr ⟨t9, List.forall_mem_cons.mpr ⟨t10, List.forall_mem_cons.mpr ⟨t11, List.forall_mem_cons.mpr ⟨t12, List.forall_mem_cons.mpr ⟨t13, List.forall_mem_cons.mpr ⟨t14, List.forall_mem_cons.mpr ⟨t15, List.forall_mem_cons.mpr ⟨t16, List.forall_mem_cons.mpr ⟨t17, List.forall_mem_cons.mpr ⟨t18, List.forall_mem_cons.mpr ⟨t19, List.forall_mem_cons.mpr ⟨t20, List.forall_mem_cons.mpr ⟨t21, List.forall_mem_cons.mpr ⟨t22, List.forall_mem_cons.mpr ⟨t24, List.forall_mem_nil _⟩⟩⟩⟩⟩⟩⟩⟩⟩⟩⟩⟩⟩⟩⟩⟩⟩⟩⟩⟩⟩⟩⟩⟩
theorem tOk : ∀ p ∈ tss, ThkT pg T p.1 p.2 := List.forall_mem_cons.mpr ⟨t23, List.forall_mem_nil _⟩
theorem staOk : sta.okB T = true := by decide +kernel
end LawK01
end
section
set_option linter.all false
set_option Elab.async false
set_option maxRecDepth 100000
set_option maxHeartbeats 0
set_option autoImplicit false
namespace LawK01
open Mi PySem PySem.Spec PyProof.Rows L2
def loose0 : List Str := [(PySem.Str.ofString "__name__"), (PySem.Str.ofString "is_integer"), (PySem.Str.ofString "is_within"), (PySem.Str.ofString "is_tuple"), (PySem.Str.ofString "goes_together"), (PySem.Str.ofString "renamed_by"), (PySem.Str.ofString "is_names"), (PySem.Str.ofString "renamed"), (PySem.Str.ofString "is_table"), (PySem.Str.ofString "_law_hand"), (PySem.Str.ofString "_law_draw"), (PySem.Str.ofString "_law_any"), (PySem.Str.ofString "_law_ring"), (PySem.Str.ofString "_law_flips"), (PySem.Str.ofString "_law_pairs"), (PySem.Str.ofString "_law_names"), (PySem.Str.ofString "_law_called"), (PySem.Str.ofString "_law_table"), (PySem.Str.ofString "_law_is_row"), (PySem.Str.ofString "_law_fault"), (PySem.Str.ofString "_law_made"), (PySem.Str.ofString "_law_bent"), (PySem.Str.ofString "_law_is_refused"), (PySem.Str.ofString "GroupError"), (PySem.Str.ofString "BadGroup"), (PySem.Str.ofString "NoMember"), (PySem.Str.ofString "Group"), (PySem.Str.ofString "MOST_MEMBERS")]
def loose : List Str := loose0
abbrev R : PySem.W.OpenRow := PySem.W.OpenLaw.row row
abbrev hk : PySem.W.Hook := hookL (faOf pg) (fnOfs dss tss) sta.tf (staB prg sta sub)
def ob (s : PySem.W.SharedT) : He.AlX := obL (faOf pg) (fnOfs dss tss) sta.tf (staB prg sta sub) (HandSHeadRun.getT s)
theorem ob_eq (s : PySem.W.SharedT) : ob s = hk.obs s.abs := obL_eq (HandSHeadRun.getT_eq s)
theorem hrun (w : World) : HandSHeadRun.RunEq R (PySem.W.view R.prog [31]) hk ob 3000 loose w := by
  intro os
  kernel_rfl
theorem lawt : LawT pg T sta dss tss := lawT_of staOk rfl rfl rfl rfl (fun D hD => ⟨(dOk D hD).dfl, (dOk D hD).bd⟩) tOk (by decide +kernel) (by decide +kernel) (by decide +kernel)
/-- the end, the plain law given -/
theorem ends {wf d : Nat} (hr : RoomG (4 * (d + 1)) callerA) {qs : List Str} (hq : qs.length = sta.tf.length)
    (law : ∀ ns : List Int, ns.length ≤ 63 → (∀ z ∈ ns, Builtin.Int.intBits z ≤ 1048576) → ∃ o', run T wf (d + 1) 24 none [.d (.lst (ns.map D.int))] (store0 qs) = .ok (.w (.d (.bl true))) o') : row.Holds := by
  w_on; o_law
  refine HandSHeadRun.head_any (r := R) (q := PySem.W.view R.prog [31]) (H := hk) (ob := ob) (M := 3000) (loose := loose) (d := HandSHeadRun.topDef R.prog 31) (kwd := []) ob_eq
    (by kernel_rfl) (fun s => by kernel_rfl) hrun (by kernel_rfl) (by kernel_rfl) (by kernel_rfl) (by rfl) (by first | assumption | decide +kernel) (by decide +kernel) ⟨rfl, rfl, rfl, rfl, rfl, by decide +kernel⟩ ?hw ?hc
  case hw => w_witness2
  case hc =>
    refine walk_G (x := "script") (l := row) (n := 63) (k := 4 * (d + 1)) rfl (by decide) (by kernel_rfl) hr ?F
    intro w mg fa h Y g hm0
    have hm : mg ("law" : Str) = some (.ref fa) := by
      have e : (HandSHeadRun.topDef R.prog 31).name = ("law" : Str) := by kernel_rfl
      rw [← e]
      exact hm0
    exact law_F (P := prg) rfl lawt (wf := wf) (d := d) (dr := fun _ _ => False) (lw := d24) (by simp [dss]) rfl rfl (by decide +kernel) hq
      (fun w h K c mg base X gb TB D hD fd F => promT (says_pgT lawt c X gb) TB F (dOk D hD)) law w mg fa h Y g hm
end LawK01
end
section
set_option linter.all false
set_option Elab.async false
set_option maxRecDepth 100000
set_option maxHeartbeats 0
set_option autoImplicit false
namespace LawK01
open Mi Mi.N PySem PySem.Spec PyProof.Rows L2
def qn : Str := PySem.Str.ofString "law.<locals>.<lambda>"
theorem k01T : K01T T where
  G := ⟨⟨rfl, rfl⟩, ⟨rfl, rfl⟩, ⟨rfl, rfl⟩, ⟨rfl, rfl⟩, ⟨rfl, rfl⟩, ⟨_, rfl⟩, rfl⟩
  hs := rfl
  c0 := ⟨_, _, _, rfl⟩
  c21 := rfl
  h4 := ⟨rfl, rfl⟩
  h6 := ⟨rfl, rfl⟩
  h7 := ⟨rfl, rfl⟩
  h8 := ⟨rfl, rfl⟩
  h9 := ⟨rfl, rfl⟩
  h10 := ⟨rfl, rfl⟩
  h11 := ⟨rfl, rfl⟩
  h12 := ⟨rfl, rfl⟩
  h13 := ⟨rfl, rfl⟩
  h14 := ⟨rfl, rfl⟩
  h15 := ⟨rfl, rfl⟩
  h16 := ⟨rfl, rfl⟩
  h17 := ⟨rfl, rfl⟩
  h18 := ⟨rfl, rfl⟩
  h19 := ⟨rfl, rfl⟩
  h20 := ⟨rfl, rfl⟩
  h21 := ⟨rfl, rfl⟩
  h22 := ⟨rfl, rfl⟩
  h23 := ⟨rfl, rfl⟩
theorem holds : row.Holds := ends (wf := 1000) (d := 10) (by exact ⟨⟨rfl, by decide, by decide⟩, rfl⟩) (qs := [qn]) rfl
  fun ns hl _ => law_ev (wf := 1000) (d := 0) k01T (i := 24) (q := qn) ⟨rfl, rfl⟩ (by decide) hl
end LawK01
end
open PySem PySem.W PyProof.Rows
set_option maxRecDepth 100000 in
set_option maxHeartbeats 8000000 in
theorem PySem.Challenge.cw_tablegroups_k01_whole_groups_judged_holds : PySem.Challenge.rw_tablegroups_k01_whole_groups_judged.Holds := by
  exact LawK01.holds
