import PyProof.Rows.All
import PyProof.P3Statements
import PyProof.EqLayable
import Wide.All
import OpenK.AllK
import Wide.FinOn
import PyProof.EqAt
import PyProof.EqKinds
import PyProof.TupleCall
import HandS.Base
import HandS.Call
import HandS.List
import HandS.Exc
import HandS.ExcOwn
import HandS.WordsExc
import HandS.Evl
import HandS.Flow
import HandS.TupAny
import HandS.Wide
import HandS.TupMul
import HandS.IsInst
import PyProof.P3In
import HandS.CallSlots
import KE.DataMinMax
import KE.KMathG
import KE.KSortedM
import HandS.TryOnly
import HandS.Iter
import HandS.Zip
import HandS.Walk
import HandS.Conv
import OpenK.KMore
import HandS.Comp
import HandS.Style
import HandS.ExcIs
import HandS.TryMany
import HandS.Defaults
import KE.KStateDown
import HandS.Head0
import HandS.Head1
import HandS.Head2
import HandS.HeadEnd
import HandS.HeadHook1
import HandS.HeadHook2
import PySem.Challenge.RW_suredue_k48_watchers_by_hand_and_refused
import HandS.Head3
set_option Elab.async false
set_option linter.all false
set_option maxRecDepth 1000000
set_option maxHeartbeats 0
/-! Sd: a small language for the Python subset of the given program, and its evaluator over PyData. -/
namespace Sd
open PySem

/-- a value in a slot: data, or a list of the small heap -/
inductive RV where
  | v (x : PyData)
  | r (a : Nat)
/-- what stands in the small heap -/
inductive MO where
  | lst (xs : List PyData)
  /-- changes no more -/
  | fz (xs : List PyData)
abbrev MH := List MO
abbrev Sl := List (Option RV)

inductive Re (α : Type) where
  | ok (a : α) (h : MH)
  | exn (c : Nat) (xs : List PyData) (h : MH)
  | stuck

inductive Ty where | int | bool | str | list | tuple
  deriving DecidableEq
inductive Bop where | add | sub | mul | fdiv | mod | pow
inductive Cop where | eq | ne | lt | le | gt | ge | inn | nin

/-- built-ins of evaluated arguments that hand back data -/
inductive B1 where | len | all | any | sum | min | max | tuple | abs | int | lcm

mutual
inductive E where
  | var (i : Nat)
  | non | bl (b : Bool) | int (i : Int) | str (x : List Nat)
  | con (g : Nat)
  | bop (op : Bop) (a b : E)
  | neg (a : E) | nt (a : E)
  | cmp (op : Cop) (a b : E)
  | cmp2 (o1 o2 : Cop) (a b c : E)
  | isN (a : E) | notN (a : E)
  | band (es : Es) | bor (es : Es)
  | ite (c a b : E)
  | tup (es : Es)
  | lst (l : L)
  | new (l : L)
  | call (g : Nat) (es : Es)
  | callK (g : Nat) (ks : Es) (names : List Str) (perm : List Nat)
  | callS (gs : List Nat) (i : E) (es : Es)
  | bi (f : B1) (es : Es)
  | isi (a : E) (t : Ty)
  | isi2 (a : E) (t u : Ty)
  | ix (a i : E)
  | slt (a : E) (lo hi : Eo)
  | index (a x : E)
  | bad
/-- what makes a new list -/
inductive L where
  | disp (es : Es)
  | comp (own : List Nat) (t : Tg) (it : It) (cs : Es) (e : E)
  | sorted (e : E)
  | list (e : E)
  | cat (a b : E)
  | rep (a : L) (n : E)
  | slice (a : E) (lo hi : Eo)
inductive Es where
  | nil | cons (e : E) (es : Es)
inductive Eo where
  | non | some (e : E)
inductive Tg where
  | var (i : Nat) | tup (ts : Tgs)
inductive Tgs where
  | nil | cons (t : Tg) (ts : Tgs)
inductive It where
  | seq (e : E) | rng (a : E) | rng2 (a b : E) | enum (e : E) | zip (a b : E) | comb (a n : E)
end

mutual
/-- what an except suite hands back; isx: isinstance(error, the base of its class) -/
inductive HV where
  | non | bl (b : Bool) | int (i : Int) | str (x : List Nat) | tup (vs : HVs) | lst (vs : HVs) | isx
inductive HVs where
  | nil | cons (v : HV) (vs : HVs)
end
mutual
def hv : HV → PyData
  | .non => .none
  | .bl b => .bool b
  | .int i => .int i
  | .str x => .str ⟨x.toArray⟩
  | .tup vs => .tuple (hvs vs)
  | .lst vs => .list (hvs vs)
  | .isx => .bool true
def hvs : HVs → List PyData
  | .nil => []
  | .cons v vs => hv v :: hvs vs
end
/-- an except suite -/
inductive HB where
  | ret (v : HV) | cont
mutual
inductive S where
  | expr (e : E)
  | ret (e : E) | retN
  | asg (t : Tg) (e : E)
  | asgL (i : Nat) (l : L) (new : Bool)
  | par (is : List Nat) (es : Es)
  | aug (i : Nat) (op : Bop) (e : E)
  | app (i : Nat) (e : E)
  | ite (c : E) (a b : Ss)
  | for (t : Tg) (it : It) (b : Ss)
  | raise (c : Nat) (es : Es)
  | tryR (b : Ss) (hs : Hs)
  | cont | brk | pass | bad
inductive Ss where
  | nil | cons (s : S) (ss : Ss)
/-- except clauses: the class, the slot of the name, the suite -/
inductive Hs where
  | nil | cons (c : Nat) (i : Option Nat) (b : HB) (hs : Hs)
end

/-! ### operations -/
def two30 : Int := 1073741824
def two64 : Int := 18446744073709551616
def two62 : Int := 4611686018427387904
def sized {α : Type} (xs : List α) : Bool := decide (xs.length ≤ 100000)

def snap : RV → MH → Option PyData
  | .v x, _ => some x
  | .r a, h => match h[a]? with
    | some (.lst xs) => some (.list xs)
    | some (.fz xs) => some (.list xs)
    | none => none

/-- a list, of whatever kind -/
def lstQ : RV → MH → Bool
  | .v (.list _), _ => true
  | .v _, _ => false
  | .r a, h => decide (a < h.length)
def bop : Bop → PyData → PyData → Option PyData
  | .add, .int a, .int b => some (.int (a + b))
  | .sub, .int a, .int b => some (.int (a - b))
  | .mul, .int a, .int b => if (-two64 < a && a < two64) || (-two64 < b && b < two64) then some (.int (a * b)) else none
  | .fdiv, .int a, .int b => if 0 < b && b < two30 then some (.int (a / b)) else none
  | .mod, .int a, .int b => if 0 < b then some (.int (a % b)) else none
  | .add, .tuple xs, .tuple ys => if sized xs && sized ys then some (.tuple (xs ++ ys)) else none
  | .mul, .tuple xs, .int n => if !xs.isEmpty && decide (xs.length ≤ 1000) && decide (2 ≤ n) && decide (n ≤ 1000) then some (.tuple (List.replicate n.toNat xs).flatten) else none
  | _, _, _ => none

/-- in place -/
def aop : Bop → PyData → PyData → Option PyData
  | .add, .int a, .int b => some (.int (a + b))
  | .sub, .int a, .int b => some (.int (a - b))
  | _, _, _ => none

def tru : PyData → Option Bool
  | .none => some false
  | .bool b => some b
  | .int i => some (decide (i ≠ 0))
  | .tuple xs => some (!xs.isEmpty)
  | .list xs => some (!xs.isEmpty)
  | _ => none

def isInD (x : PyData) : List PyData → Bool
  | [] => false
  | y :: ys => PyData.eqv y x || isInD x ys

def cop : Cop → PyData → PyData → Option Bool
  | .lt, .int a, .int b => some (decide (a < b))
  | .le, .int a, .int b => some (decide (a ≤ b))
  | .gt, .int a, .int b => some (decide (b < a))
  | .ge, .int a, .int b => some (decide (b ≤ a))
  | .eq, x, y => if SeqAt.shaped x && SeqAt.shaped y then some (PyData.eqv x y) else none
  | .ne, x, y => if SeqAt.shaped x && SeqAt.shaped y then some (!PyData.eqv x y) else none
  | .inn, x, .list ys => if SeqAt.shaped x && SeqAt.shaped (.list ys) then some (isInD x ys) else none
  | .inn, x, .tuple ys => if SeqAt.shaped x && SeqAt.shaped (.list ys) then some (isInD x ys) else none
  | .nin, x, .list ys => if SeqAt.shaped x && SeqAt.shaped (.list ys) then some (!isInD x ys) else none
  | .nin, x, .tuple ys => if SeqAt.shaped x && SeqAt.shaped (.list ys) then some (!isInD x ys) else none
  | _, _, _ => none

def intsD : List PyData → Option (List Int)
  | [] => some []
  | .int i :: r => match intsD r with
    | some l => some (i :: l)
    | none => none
  | _ :: _ => none
def boolsD : List PyData → Option (List Bool)
  | [] => some []
  | .bool i :: r => match boolsD r with
    | some l => some (i :: l)
    | none => none
  | _ :: _ => none
def seqOf : PyData → Option (List PyData)
  | .list xs => some xs
  | .tuple xs => some xs
  | _ => none
def minI : Int → List Int → Int
  | m, [] => m
  | m, x :: r => minI (if x < m then x else m) r
def maxI : Int → List Int → Int
  | m, [] => m
  | m, x :: r => maxI (if m < x then x else m) r
def ins (x : Int) : List Int → List Int
  | [] => [x]
  | y :: r => if x ≤ y then x :: y :: r else y :: ins x r
def isort : List Int → List Int
  | [] => []
  | x :: r => ins x (isort r)

def b1 : B1 → List PyData → Option PyData
  | .len, [.list xs] => if sized xs then some (.int xs.length) else none
  | .len, [.tuple xs] => if sized xs then some (.int xs.length) else none
  | .all, [.list xs] => match boolsD xs with
    | some l => some (.bool (l.all id))
    | none => none
  | .any, [.list xs] => match boolsD xs with
    | some l => some (.bool (l.any id))
    | none => none
  | .sum, [.list xs] => match intsD xs with
    | some l => some (.int l.sum)
    | none => none
  | .min, [x] => match seqOf x with
    | some xs => match intsD xs with
      | some (a :: l) => if sized xs then some (.int (minI a l)) else none
      | _ => none
    | none => none
  | .max, [x] => match seqOf x with
    | some xs => match intsD xs with
      | some (a :: l) => if sized xs then some (.int (maxI a l)) else none
      | _ => none
    | none => none
  | .max, [.int a, .int b] => some (.int (if b > a then b else a))
  | .min, [.int a, .int b] => some (.int (if b < a then b else a))
  | .tuple, [.list xs] => if sized xs then some (.tuple xs) else none
  | .tuple, [.tuple xs] => some (.tuple xs)
  | .abs, [.int a] => some (.int (if a < 0 then -a else a))
  | .int, [.int a] => some (.int a)
  | .int, [.bool b] => some (.int (if b then 1 else 0))
  | .lcm, [.int a, .int b] => if 0 < a && a < two30 && 0 < b && b < two30 then some (.int (Nat.lcm a.toNat b.toNat)) else none
  | _, _ => none

def tyOf : PyData → Option Ty
  | .int _ => some .int
  | .bool _ => some .bool
  | .str _ => some .str
  | .list _ => some .list
  | .tuple _ => some .tuple
  | _ => none
/-- isinstance of a built-in type -/
def isTy (x : PyData) (t : Ty) : Bool :=
  match x, t with
  | .int _, .int => true
  | .bool _, .bool => true
  | .bool _, .int => true
  | .str _, .str => true
  | .list _, .list => true
  | .tuple _, .tuple => true
  | _, _ => false

def ixN (n : Nat) (i : Int) : Option Nat := if 0 ≤ i then (if i < n then some i.toNat else none) else if -(n : Int) ≤ i then some (i + n).toNat else none
def atD (xs : List PyData) (i : Int) : Option PyData := (ixN xs.length i).bind fun j => xs[j]?
def subD : PyData → PyData → Option PyData
  | .list xs, .int i => if sized xs then atD xs i else none
  | .tuple xs, .int i => if sized xs then atD xs i else none
  | _, _ => none
/-- a slice's bound -/
def sIx (n d : Nat) : Option Int → Nat
  | none => d
  | some v => if v < 0 then (v + (n : Int)).toNat else min v.toNat n
def cut (xs : List PyData) (lo hi : Option Int) : List PyData :=
  (xs.drop (sIx xs.length 0 lo)).take (sIx xs.length xs.length hi - sIx xs.length 0 lo)
def bound : Option PyData → Option (Option Int)
  | none => some none
  | some (.int i) => some (some i)
  | _ => none
def placeI (x : Int) : List Int → Nat → Option Nat
  | [], _ => none
  | y :: ys, i => if y = x then some i else placeI x ys (i + 1)

/-! ### items -/
def rngL : Nat → Int → List PyData
  | 0, _ => []
  | n + 1, a => .int a :: rngL n (a + 1)
def enumL : List PyData → Int → List PyData
  | [], _ => []
  | x :: r, i => .tuple [.int i, x] :: enumL r (i + 1)
def zipL : List PyData → List PyData → List PyData
  | x :: xs, y :: ys => .tuple [x, y] :: zipL xs ys
  | _, _ => []
/-- the row of places behind a row, as combinations steps -/
def nextC (n : Nat) (is : List Nat) : Option (List Nat) :=
  match (List.range is.length).reverse.find? fun i => is.getD i 0 != i + n - is.length with
  | none => none
  | some i => some (is.take i ++ (List.range (is.length - i)).map (is.getD i 0 + 1 + ·))
def combI (n : Nat) : Nat → List Nat → Option (List (List Nat))
  | 0, _ => none
  | f + 1, is => match nextC n is with
    | none => some [is]
    | some js => match combI n f js with
      | some r => some (is :: r)
      | none => none
def tupN (is : List Nat) : PyData := .tuple (is.map fun (i : Nat) => PyData.int i)
def combR (m k : Nat) : Option (List (List Nat)) := if m < k then some [] else match combI m 300 (List.range k) with
  | some r => if r.all fun is => decide (is.length ≤ 1000) && is.all fun i => decide (i < m) then some r else none
  | none => none
def combD (m k : Nat) : Option (List PyData) := match combR m k with
  | some r => some (r.map tupN)
  | none => none

/-! ### slots -/
def setS (σ : Sl) (i : Nat) (x : RV) : Sl := σ.set i (some x)
def wipeS (σ : Sl) : List Nat → Sl
  | [] => σ
  | i :: r => wipeS (σ.set i none) r
mutual
def setT : Tg → RV → Sl → Option Sl
  | .var i, x, σ => if i < σ.length then some (setS σ i x) else none
  | .tup ts, .v (.tuple xs), σ => setTs ts xs σ
  | .tup ts, .v (.list xs), σ => setTs ts xs σ
  | .tup _, _, _ => none
def setTs : Tgs → List PyData → Sl → Option Sl
  | .nil, [], σ => some σ
  | .cons t ts, x :: xs, σ => match setT t (.v x) σ with
    | some σ' => setTs ts xs σ'
    | none => none
  | _, _, _ => none
end

def setP : List Nat → List RV → Sl → Option Sl
  | [], [], σ => some σ
  | i :: is, v :: vs, σ => if i < σ.length then setP is vs (setS σ i v) else none
  | _, _, _ => none
def Re.bind {α β : Type} (x : Re α) (f : α → MH → Re β) : Re β :=
  match x with
  | .ok a h => f a h
  | .exn c xs h => .exn c xs h
  | .stuck => .stuck
def liftO {α : Type} (x : Option α) (h : MH) : Re α := match x with
  | some a => .ok a h
  | none => .stuck
/-- as data -/
def dat (x : Re RV) : Re PyData := x.bind fun v h => liftO (snap v h) h
/-- as data that is kept: a list of the small heap changes no more -/
def froze : RV → MH → Re PyData
  | .v x, h => .ok x h
  | .r a, h => match h[a]? with
    | some (.lst xs) => .ok (.list xs) (h.set a (.fz xs))
    | some (.fz xs) => .ok (.list xs) h
    | none => .stuck
def datP (x : Re RV) : Re PyData := x.bind froze
def snap2 {α : Type} (v w : RV) (h : MH) (f : PyData → PyData → Re α) : Re α :=
  match snap v h with
  | some x => match snap w h with
    | some y => f x y
    | none => .stuck
  | none => .stuck
def snaps : List RV → MH → Option (List PyData)
  | [], _ => some []
  | v :: vs, h => match snap v h with
    | some x => match snaps vs h with
      | some xs => some (x :: xs)
      | none => none
    | none => none

/-- a comprehension's turns: f gives none where a test fails -/
def compL (f : PyData → MH → Re (Option PyData)) : List PyData → MH → Re (List PyData)
  | [], h => .ok [] h
  | x :: r, h => match f x h with
    | .ok o h1 => match compL f r h1 with
      | .ok ys h2 => .ok (match o with
        | some y => y :: ys
        | none => ys) h2
      | _ => .stuck
    | _ => .stuck

abbrev CF := Nat → List RV → MH → Re RV
def pick {α : Type} (vs : List α) : List Nat → Option (List α)
  | [] => some []
  | i :: r => match vs[i]?, pick vs r with
    | some v, some l => some (v :: l)
    | _, _ => none

variable (cf : CF) (cs : List PyData)
mutual
def ev : E → Sl → MH → Re RV
  | .var i, σ, h => match σ[i]? with
    | some (some v) => .ok v h
    | _ => .stuck
  | .non, _, h => .ok (.v .none) h
  | .bl b, _, h => .ok (.v (.bool b)) h
  | .int i, _, h => .ok (.v (.int i)) h
  | .str x, _, h => .ok (.v (.str ⟨x.toArray⟩)) h
  | .con g, _, h => match cs[g]? with
    | some x => .ok (.v x) h
    | none => .stuck
  | .bop op a b, σ, h => (ev a σ h).bind fun v h1 => (ev b σ h1).bind fun w h2 => snap2 v w h2 fun x y => liftO ((bop op x y).map RV.v) h2
  | .neg a, σ, h => (dat (ev a σ h)).bind fun x h1 => match x with
    | .int i => .ok (.v (.int (-i))) h1
    | _ => .stuck
  | .nt a, σ, h => (dat (ev a σ h)).bind fun x h1 => match tru x with
    | some b => .ok (.v (.bool (!b))) h1
    | none => .stuck
  | .cmp op a b, σ, h => (ev a σ h).bind fun v h1 => (ev b σ h1).bind fun w h2 => snap2 v w h2 fun x y => liftO ((cop op x y).map fun b => RV.v (.bool b)) h2
  | .cmp2 o1 o2 a b c, σ, h => (datP (ev a σ h)).bind fun x h1 => (datP (ev b σ h1)).bind fun y h2 => match cop o1 x y with
    | some true => (datP (ev c σ h2)).bind fun z h3 => liftO ((cop o2 y z).map fun b => RV.v (.bool b)) h3
    | some false => .ok (.v (.bool false)) h2
    | none => .stuck
  | .isN a, σ, h => (ev a σ h).bind fun x h1 => .ok (.v (.bool (match x with | .v .none => true | _ => false))) h1
  | .notN a, σ, h => (ev a σ h).bind fun x h1 => .ok (.v (.bool (match x with | .v .none => false | _ => true))) h1
  | .band es, σ, h => evAnd es σ h
  | .bor es, σ, h => evOr es σ h
  | .ite c a b, σ, h => (dat (ev c σ h)).bind fun x h1 => match tru x with
    | some true => ev a σ h1
    | some false => ev b σ h1
    | none => .stuck
  | .tup es, σ, h => (evP es σ h).bind fun xs h1 => if sized xs then .ok (.v (.tuple xs)) h1 else .stuck
  | .lst l, σ, h => (evL l σ h).bind fun xs h1 => .ok (.v (.list xs)) h1
  | .new l, σ, h => (evL l σ h).bind fun xs h1 => .ok (.r h1.length) (h1 ++ [.lst xs])
  | .call g es, σ, h => (evs es σ h).bind fun vs h1 => cf g vs h1
  | .callK g ks _ perm, σ, h => (evs ks σ h).bind fun vs h1 => match pick vs perm with
    | some ws => cf g ws h1
    | none => .stuck
  | .callS gs i es, σ, h => (datP (ev i σ h)).bind fun x h1 => match x with
    | .int k => match ixN gs.length k with
      | some j => match gs[j]? with
        | some g => (evs es σ h1).bind fun vs h2 => cf g vs h2
        | none => .stuck
      | none => .stuck
    | _ => .stuck
  | .bi f es, σ, h => (evs es σ h).bind fun vs h1 => (liftO (snaps vs h1) h1).bind fun xs h1 => liftO ((b1 f xs).map RV.v) h1
  | .isi a t, σ, h => (dat (ev a σ h)).bind fun x h1 => .ok (.v (.bool (isTy x t))) h1
  | .isi2 a t u, σ, h => (dat (ev a σ h)).bind fun x h1 => .ok (.v (.bool (isTy x t || isTy x u))) h1
  | .ix a i, σ, h => (ev a σ h).bind fun v h1 => (ev i σ h1).bind fun w h2 => snap2 v w h2 fun x y => liftO ((subD x y).map RV.v) h2
  | .slt a lo hi, σ, h => (datP (ev a σ h)).bind fun x h1 => (evO lo σ h1).bind fun l h2 => (evO hi σ h2).bind fun u h3 => match x with
    | .tuple xs => if sized xs then .ok (.v (.tuple (cut xs l u))) h3 else .stuck
    | _ => .stuck
  | .bad, _, _ => .stuck
  | .index a x, σ, h => (ev a σ h).bind fun v h1 => if lstQ v h1 then (ev x σ h1).bind fun w h2 => snap2 v w h2 fun y z => match y with
    | .list xs => match intsD xs with
      | some l => match z with
        | .int k => liftO ((placeI k l 0).map fun i => RV.v (.int i)) h2
        | _ => .stuck
      | none => .stuck
    | _ => .stuck
    else .stuck
def evAnd : Es → Sl → MH → Re RV
  | .nil, _, _ => .stuck
  | .cons e .nil, σ, h => ev e σ h
  | .cons e (.cons e' es), σ, h => (datP (ev e σ h)).bind fun x h1 => match tru x with
    | some true => evAnd (.cons e' es) σ h1
    | some false => .ok (.v x) h1
    | none => .stuck
def evOr : Es → Sl → MH → Re RV
  | .nil, _, _ => .stuck
  | .cons e .nil, σ, h => ev e σ h
  | .cons e (.cons e' es), σ, h => (datP (ev e σ h)).bind fun x h1 => match tru x with
    | some true => .ok (.v x) h1
    | some false => evOr (.cons e' es) σ h1
    | none => .stuck
def evL : L → Sl → MH → Re (List PyData)
  | .disp es, σ, h => (evP es σ h).bind fun xs h1 => if sized xs then .ok xs h1 else .stuck
  | .comp own t it cs e, σ, h => (evI it σ h).bind fun xs h1 => (compL (fun x h => match setT t (.v x) (wipeS σ own) with
      | some σ' => match evC cs σ' h with
        | .ok true h2 => match datP (ev e σ' h2) with
          | .ok y h3 => .ok (some y) h3
          | _ => .stuck
        | .ok false h2 => .ok none h2
        | _ => .stuck
      | none => .stuck) xs h1).bind fun ys h2 => if sized ys then .ok ys h2 else .stuck
  | .sorted e, σ, h => (dat (ev e σ h)).bind fun x h1 => match x with
    | .list xs => match intsD xs with
      | some l => if l.length < 64 then .ok ((isort l).map PyData.int) h1 else .stuck
      | none => .stuck
    | _ => .stuck
  | .list e, σ, h => (dat (ev e σ h)).bind fun x h1 => match seqOf x with
    | some xs => if sized xs then .ok xs h1 else .stuck
    | none => .stuck
  | .cat a b, σ, h => (ev a σ h).bind fun v h1 => (ev b σ h1).bind fun w h2 => snap2 v w h2 fun x y => match x, y with
    | .list xs, .list ys => if sized xs && sized ys then .ok (xs ++ ys) h2 else .stuck
    | _, _ => .stuck
  | .rep a n, σ, h => (evL a σ h).bind fun xs h1 => (dat (ev n σ h1)).bind fun y h2 => match y with
    | .int n => if sized xs && decide (xs.length * n.toNat ≤ 100000) && decide (-two62 < n) && decide (n < two62) then .ok (List.replicate n.toNat xs).flatten h2 else .stuck
    | _ => .stuck
  | .slice a lo hi, σ, h => (datP (ev a σ h)).bind fun x h1 => (evO lo σ h1).bind fun l h2 => (evO hi σ h2).bind fun u h3 => match x with
    | .list xs => if sized xs then .ok (cut xs l u) h3 else .stuck
    | _ => .stuck
/-- arguments as they are -/
def evs : Es → Sl → MH → Re (List RV)
  | .nil, _, h => .ok [] h
  | .cons e es, σ, h => (ev e σ h).bind fun x h1 => (evs es σ h1).bind fun xs h2 => .ok (x :: xs) h2
/-- as data, none from the small heap -/
def evP : Es → Sl → MH → Re (List PyData)
  | .nil, _, h => .ok [] h
  | .cons e es, σ, h => (datP (ev e σ h)).bind fun x h1 => (evP es σ h1).bind fun xs h2 => .ok (x :: xs) h2
/-- a comprehension's tests -/
def evC : Es → Sl → MH → Re Bool
  | .nil, _, h => .ok true h
  | .cons e es, σ, h => (dat (ev e σ h)).bind fun x h1 => match tru x with
    | some true => evC es σ h1
    | some false => .ok false h1
    | none => .stuck
def evO : Eo → Sl → MH → Re (Option Int)
  | .non, _, h => .ok none h
  | .some e, σ, h => (dat (ev e σ h)).bind fun x h1 => match x with
    | .int i => .ok (some i) h1
    | _ => .stuck
def evI : It → Sl → MH → Re (List PyData)
  | .seq e, σ, h => (datP (ev e σ h)).bind fun x h1 => match seqOf x with
    | some xs => if sized xs then .ok xs h1 else .stuck
    | none => .stuck
  | .rng a, σ, h => (dat (ev a σ h)).bind fun x h1 => match x with
    | .int n => if -two62 ≤ n && n < two62 then .ok (rngL n.toNat 0) h1 else .stuck
    | _ => .stuck
  | .rng2 a b, σ, h => (dat (ev a σ h)).bind fun x h1 => (dat (ev b σ h1)).bind fun y h2 => match x, y with
    | .int m, .int n => if -two62 ≤ m && m < two62 && -two62 ≤ n && n < two62 then .ok (rngL (n - m).toNat m) h2 else .stuck
    | _, _ => .stuck
  | .enum e, σ, h => (datP (ev e σ h)).bind fun x h1 => match x with
    | .list xs => if sized xs then .ok (enumL xs 0) h1 else .stuck
    | _ => .stuck
  | .zip a b, σ, h => (datP (ev a σ h)).bind fun x h1 => (datP (ev b σ h1)).bind fun y h2 => match x, y with
    | .list xs, .list ys => if sized xs && sized ys then .ok (zipL xs ys) h2 else .stuck
    | .tuple xs, .tuple ys => if sized xs && sized ys then .ok (zipL xs ys) h2 else .stuck
    | _, _ => .stuck
  | .comb a n, σ, h => (dat (ev a σ h)).bind fun x h1 => match x with
    | .int m => (dat (ev n σ h1)).bind fun y h2 => match y with
      | .int k => if 0 ≤ m && m ≤ 8 && 0 ≤ k && k ≤ 8 then liftO (combD m.toNat k.toNat) h2 else .stuck
      | _ => .stuck
    | _ => .stuck
end

/-- a statement's end -/
inductive Rs where
  | nx (σ : Sl) (h : MH) | rt (v : RV) (h : MH) | bk (σ : Sl) (h : MH) | ct (σ : Sl) (h : MH)
  | exn (c : Nat) (xs : List PyData) (σ : Sl) (h : MH) | stuck
def Re.st {α : Type} (x : Re α) (σ : Sl) (f : α → MH → Rs) : Rs :=
  match x with
  | .ok a h => f a h
  | .exn c xs h => .exn c xs σ h
  | .stuck => .stuck
/-- a for's turns -/
def forL (t : Tg) (f : Sl → MH → Rs) : List PyData → Sl → MH → Rs
  | [], σ, h => .nx σ h
  | x :: r, σ, h => match setT t (.v x) σ with
    | some σ1 => match f σ1 h with
      | .nx σ2 h2 => forL t f r σ2 h2
      | .ct σ2 h2 => forL t f r σ2 h2
      | .bk σ2 h2 => .nx σ2 h2
      | z => z
    | none => .stuck

def exB : HB → Option Nat → Sl → MH → Rs
  | .ret v, none, _, h => .rt (.v (hv v)) h
  | .ret v, some j, σ, h => if j < σ.length then .rt (.v (hv v)) h else .stuck
  | .cont, none, σ, h => .ct σ h
  | .cont, some _, _, _ => .stuck
def exH : Hs → Nat → List PyData → Sl → MH → Rs
  | .nil, c, xs, σ, h => .exn c xs σ h
  | .cons d i b hs, c, xs, σ, h => if c = d then exB b i σ h else exH hs c xs σ h
mutual
def ex : S → Sl → MH → Rs
  | .expr e, σ, h => (ev cf cs e σ h).st σ fun _ h1 => .nx σ h1
  | .ret e, σ, h => (ev cf cs e σ h).st σ fun v h1 => .rt v h1
  | .retN, _, h => .rt (.v .none) h
  | .asg t e, σ, h => (ev cf cs e σ h).st σ fun v h1 => match setT t v σ with
    | some σ' => .nx σ' h1
    | none => .stuck
  | .asgL i l false, σ, h => (evL cf cs l σ h).st σ fun xs h1 => if i < σ.length then .nx (setS σ i (.v (.list xs))) h1 else .stuck
  | .asgL i l true, σ, h => (evL cf cs l σ h).st σ fun xs h1 => if i < σ.length then .nx (setS σ i (.r h1.length)) (h1 ++ [.lst xs]) else .stuck
  | .par is es, σ, h => (evs cf cs es σ h).st σ fun vs h1 => match setP is vs σ with
    | some σ' => .nx σ' h1
    | none => .stuck
  | .aug i op e, σ, h => match σ[i]? with
    | some (some (.v x)) => (datP (ev cf cs e σ h)).st σ fun y h1 => match aop op x y with
      | some z => .nx (setS σ i (.v z)) h1
      | none => .stuck
    | _ => .stuck
  | .app i e, σ, h => match σ[i]? with
    | some (some (.r a)) => if a < h.length then (datP (ev cf cs e σ h)).st σ fun x h1 => match h1[a]? with
      | some (.lst xs) => if sized xs then .nx σ (h1.set a (.lst (xs ++ [x]))) else .stuck
      | _ => .stuck
      else .stuck
    | _ => .stuck
  | .ite c a b, σ, h => (dat (ev cf cs c σ h)).st σ fun x h1 => match tru x with
    | some true => exs a σ h1
    | some false => exs b σ h1
    | none => .stuck
  | .for t it b, σ, h => (evI cf cs it σ h).st σ fun xs h1 => forL t (exs b) xs σ h1
  | .raise c es, σ, h => (evP cf cs es σ h).st σ fun xs h1 => .exn c xs σ h1
  | .tryR b hs, σ, h => match exs b σ h with
    | .exn c xs σ' h' => exH hs c xs σ' h'
    | z => z
  | .bad, _, _ => .stuck
  | .cont, σ, h => .ct σ h
  | .brk, σ, h => .bk σ h
  | .pass, σ, h => .nx σ h
def exs : Ss → Sl → MH → Rs
  | .nil, σ, h => .nx σ h
  | .cons s ss, σ, h => match ex s σ h with
    | .nx σ' h' => exs ss σ' h'
    | z => z
end

structure FD where
  np : Nat
  ns : Nat
  body : Ss

/-- a call's end: what was made within goes, a list of the small heap that was made within is handed back as data -/
def fin (n : Nat) (v : RV) (h : MH) : Re RV := match v with
  | .v x => .ok (.v x) (h.take n)
  | .r a => if a < n then .ok (.r a) (h.take n) else match snap (.r a) h with
    | some x => .ok (.v x) (h.take n)
    | none => .stuck
def start (ns : Nat) (args : List RV) : Sl := args.map some ++ List.replicate (ns - args.length) none
def callN (ft : List FD) (cs : List PyData) : Nat → CF
  | 0 => fun _ _ _ => .stuck
  | k + 1 => fun g args h => match ft[g]? with
    | some d => if args.length = d.np then
        match exs (callN ft cs k) cs d.body (start d.ns args) h with
        | .rt v h' => fin h.length v h'
        | .nx _ h' => fin h.length (.v .none) h'
        | .exn c xs _ h' => .exn c xs (h'.take h.length)
        | _ => .stuck
      else .stuck
    | none => .stuck
end Sd

/-! Sd: how the evaluator's state stands to the model's, and readings made of the evaluator. -/
namespace Sd
open L2 PySem PySem.Spec PyProof.Rows

/-! ### the relation -/
def Sub (I J : Hp) : Prop := ∀ b o, I b = some o → J b = some o
theorem Sub.refl (I : Hp) : Sub I I := fun _ _ h => h
theorem Sub.trans {I J K : Hp} (a : Sub I J) (b : Sub J K) : Sub I K := fun c o h => b c o (a c o h)

/-! data in the abstract heap: the hand layer has the like, which takes lists of the written part too -/
mutual
inductive Dp (K : PySem.W.Frag) (H : Hp) : V → PyData → Prop
  | non : Dp K H .non .none
  | bl (b : Bool) : Dp K H (.bl b) (.bool b)
  | int (i : Int) : Dp K H (.int i) (.int i)
  | str (x : Str) : Dp K H (.str x) (.str x)
  | lst {a : Addr} {xs : List V} {ds : List PyData} : SqL K H a xs → DpAll K H xs ds → Dp K H (.ref a) (.list ds)
  | tup {a : Addr} {xs : List V} {ds : List PyData} : SqT K H a xs → DpAll K H xs ds → Dp K H (.ref a) (.tuple ds)
inductive DpAll (K : PySem.W.Frag) (H : Hp) : List V → List PyData → Prop
  | nil : DpAll K H [] []
  | cons {v : V} {vs : List V} {d : PyData} {ds : List PyData} : Dp K H v d → DpAll K H vs ds → DpAll K H (v :: vs) (d :: ds)
end
section
variable {K : PySem.W.Frag}
mutual
theorem Dp.up {H : Hp} : ∀ {y : V} {x : PyData}, Dp K H y x → L2.Dp K H y x
  | _, _, .non => .non
  | _, _, .bl b => .bl b
  | _, _, .int i => .int i
  | _, _, .str x => .str x
  | _, _, .lst h d => .lst h (DpAll.up d)
  | _, _, .tup h d => .tup h (DpAll.up d)
theorem DpAll.up {H : Hp} : ∀ {ys : List V} {xs : List PyData}, DpAll K H ys xs → L2.DpAll K H ys xs
  | _, _, .nil => .nil
  | _, _, .cons h d => .cons (Dp.up h) (DpAll.up d)
end
theorem rd_sub {I J : Hp} {a : Addr} {u : HO} (s : Sub I J) (h : Rd I a u) : Rd J a u := Evl.ex_rd s h
theorem sqL_sub {I J : Hp} {a : Addr} {xs : List V} (s : Sub I J) (h : SqL K I a xs) : SqL K J a xs := Evl.ex_l s h
theorem sqT_sub {I J : Hp} {a : Addr} {xs : List V} (s : Sub I J) (h : SqT K I a xs) : SqT K J a xs := Evl.ex_t s h
mutual
theorem dp_sub {I J : Hp} (s : Sub I J) : ∀ {y : V} {x : PyData}, Dp K I y x → Dp K J y x
  | _, _, .non => .non
  | _, _, .bl b => .bl b
  | _, _, .int i => .int i
  | _, _, .str x => .str x
  | _, _, .lst h d => .lst (sqL_sub s h) (dps_sub s d)
  | _, _, .tup h d => .tup (sqT_sub s h) (dps_sub s d)
theorem dps_sub {I J : Hp} (s : Sub I J) : ∀ {ys : List V} {xs : List PyData}, DpAll K I ys xs → DpAll K J ys xs
  | _, _, .nil => .nil
  | _, _, .cons h d => .cons (dp_sub s h) (dps_sub s d)
end
theorem DpAll.len : ∀ {I : Hp} {ys : List V} {xs : List PyData}, DpAll K I ys xs → ys.length = xs.length
  | _, _, _, .nil => rfl
  | _, _, _, .cons _ d => congrArg (· + 1) (DpAll.len d)
theorem DpAll.app {I : Hp} : ∀ {ys zs : List V} {xs ws : List PyData}, DpAll K I ys xs → DpAll K I zs ws → DpAll K I (ys ++ zs) (xs ++ ws)
  | _, _, _, _, .nil, e => e
  | _, _, _, _, .cons h d, e => .cons h (DpAll.app d e)
theorem DpAll.get {I : Hp} : ∀ {ys : List V} {xs : List PyData} {i : Nat} {x : PyData}, DpAll K I ys xs → xs[i]? = some x → ∃ y, ys[i]? = some y ∧ Dp K I y x
  | _, _, _, _, .nil, e => by simp at e
  | _, _, 0, _, .cons h _, e => by simp at e; subst e; exact ⟨_, rfl, h⟩
  | _, _, i + 1, x, .cons _ d, e => by
    obtain ⟨y, h1, h2⟩ := DpAll.get (i := i) (x := x) d (by simpa using e)
    exact ⟨y, by simpa using h1, h2⟩
theorem DpAll.getV {I : Hp} : ∀ {ys : List V} {xs : List PyData} {i : Nat} {y : V}, DpAll K I ys xs → ys[i]? = some y → ∃ x, xs[i]? = some x ∧ Dp K I y x
  | _, _, _, _, .nil, e => by simp at e
  | _, _, 0, _, .cons h _, e => by simp at e; subst e; exact ⟨_, rfl, h⟩
  | _, _, i + 1, x, .cons _ d, e => by
    obtain ⟨y, h1, h2⟩ := DpAll.getV (i := i) (y := x) d (by simpa using e)
    exact ⟨y, by simpa using h1, h2⟩
theorem DpAll.take {I : Hp} : ∀ {ys : List V} {xs : List PyData} (n : Nat), DpAll K I ys xs → DpAll K I (ys.take n) (xs.take n)
  | _, _, 0, _ => .nil
  | _, _, _ + 1, .nil => .nil
  | _, _, n + 1, .cons h d => .cons h (DpAll.take n d)
theorem DpAll.drop {I : Hp} : ∀ {ys : List V} {xs : List PyData} (n : Nat), DpAll K I ys xs → DpAll K I (ys.drop n) (xs.drop n)
  | _, _, 0, d => d
  | _, _, _ + 1, .nil => .nil
  | _, _, n + 1, .cons _ d => DpAll.drop n d

/-- where the small heap's objects stand; and what stands besides, of nobody here: it stays as it is -/
structure Ad where
  l : List Addr
  fr : Hp
instance : Membership Addr Ad := ⟨fun A p => p ∈ A.l ∨ A.fr p ≠ none⟩
def Ad.add (A : Ad) (p : Addr) : Ad := ⟨A.l ++ [p], A.fr⟩
theorem Ad.out {A : Ad} {p : Addr} (h : p ∉ A) : p ∉ A.l ∧ A.fr p = none :=
  ⟨fun z => h (.inl z), by cases q : A.fr p with
    | none => rfl
    | some o => exact (h (.inr (by rw [q]; exact fun z => nomatch z))).elim⟩
theorem Ad.out_of {A : Ad} {p : Addr} (h : p ∉ A.l) (g : A.fr p = none) : p ∉ A := fun z => z.elim h fun y => y g
/-- an object of the small heap -/
def MOk (K : PySem.W.Frag) (I H : Hp) : MO → Addr → Prop
  | .lst xs, a => I a = none ∧ ∃ vs, H a = some (.lst vs) ∧ DpAll K I vs xs
  | .fz xs, a => ∃ vs, I a = some (.lst vs) ∧ DpAll K I vs xs
/-- I: what does not change any more; A: where the small heap's objects stand -/
structure ST (K : PySem.W.Frag) (I : Hp) (A : Ad) (m : MH) (H : Hp) : Prop where
  sub : Sub I H
  len : A.l.length = m.length
  nd : A.l.Nodup
  obj : ∀ (i : Nat) (o : MO) (a : Addr), m[i]? = some o → A.l[i]? = some a → MOk K I H o a
  fr : ∀ (b : Addr) (o : HO), A.fr b = some o → H b = some o ∧ I b = none ∧ b ∉ A.l
def RR (K : PySem.W.Frag) (I : Hp) (A : Ad) : RV → V → Prop
  | .v x, y => Dp K I y x
  | .r i, y => ∃ a, A.l[i]? = some a ∧ y = .ref a
structure Ext (I : Hp) (A : Ad) (I' : Hp) (A' : Ad) : Prop where
  sub : Sub I I'
  pre : ∀ (i : Nat) (a : Addr), A.l[i]? = some a → A'.l[i]? = some a
  fr : A'.fr = A.fr
theorem Ext.refl {I : Hp} {A : Ad} : Ext I A I A := ⟨Sub.refl I, fun _ _ h => h, rfl⟩
theorem Ext.trans {I I1 I2 : Hp} {A A1 A2 : Ad} (a : Ext I A I1 A1) (b : Ext I1 A1 I2 A2) : Ext I A I2 A2 :=
  ⟨a.sub.trans b.sub, fun i x h => b.pre i x (a.pre i x h), b.fr.trans a.fr⟩
theorem RR.mono {I I' : Hp} {A A' : Ad} (e : Ext I A I' A') : ∀ {x : RV} {y : V}, RR K I A x y → RR K I' A' x y
  | .v _, _, h => dp_sub e.sub h
  | .r _, _, ⟨a, h, q⟩ => ⟨a, e.pre _ _ h, q⟩
inductive RRs (K : PySem.W.Frag) (I : Hp) (A : Ad) : List RV → List V → Prop
  | nil : RRs K I A [] []
  | cons {x : RV} {y : V} {xs : List RV} {ys : List V} : RR K I A x y → RRs K I A xs ys → RRs K I A (x :: xs) (y :: ys)
theorem RRs.mono {I I' : Hp} {A A' : Ad} (e : Ext I A I' A') : ∀ {xs : List RV} {ys : List V}, RRs K I A xs ys → RRs K I' A' xs ys
  | _, _, .nil => .nil
  | _, _, .cons h r => .cons (RR.mono e h) (RRs.mono e r)
theorem RRs.len {I : Hp} {A : Ad} : ∀ {xs : List RV} {ys : List V}, RRs K I A xs ys → xs.length = ys.length
  | _, _, .nil => rfl
  | _, _, .cons _ r => congrArg (· + 1) (RRs.len r)
theorem RRs.get {I : Hp} {A : Ad} : ∀ {xs : List RV} {ys : List V} {i : Nat} {x : RV}, RRs K I A xs ys → xs[i]? = some x → ∃ y, ys[i]? = some y ∧ RR K I A x y
  | _, _, _, _, .nil, e => by simp at e
  | _, _, 0, _, .cons h _, e => by simp at e; subst e; exact ⟨_, rfl, h⟩
  | _, _, i + 1, x, .cons _ d, e => by
    obtain ⟨y, h1, h2⟩ := RRs.get (i := i) (x := x) d (by simpa using e)
    exact ⟨y, by simpa using h1, h2⟩
/-- the slots -/
structure SR (K : PySem.W.Frag) (I : Hp) (A : Ad) (σ : Sl) (s : L2.St) : Prop where
  len : σ.length = s.length
  at_ : ∀ (i : Nat) (x : RV), σ[i]? = some (some x) → ∃ y, s[i]? = some (some y) ∧ RR K I A x y
theorem SR.mono {I I' : Hp} {A A' : Ad} {σ : Sl} {s : L2.St} (e : Ext I A I' A') (h : SR K I A σ s) : SR K I' A' σ s :=
  ⟨h.len, fun i x q => let ⟨y, a, b⟩ := h.at_ i x q; ⟨y, a, RR.mono e b⟩⟩

/-! ### a datum that is read now -/
/-- what stands in the small heap, as the whole heap tells it -/
theorem snap_ok {I H : Hp} {A : Ad} {m : MH} (st : ST K I A m H) : ∀ {v : RV} {y : V} {x : PyData}, RR K I A v y → snap v m = some x → Dp K H y x
  | .v z, y, x, r, e => by
    have e' : z = x := Option.some.inj e
    subst e'
    exact dp_sub st.sub r
  | .r i, y, x, r, e => by
    obtain ⟨a, ha, rfl⟩ := r
    have e' : (match m[i]? with
      | some (.lst xs) => some (PyData.list xs)
      | some (.fz xs) => some (PyData.list xs)
      | none => none) = some x := e
    cases q : m[i]? with
    | none => rw [q] at e'; cases e'
    | some o =>
      rw [q] at e'
      have ok := st.obj i o a q ha
      cases o with
      | lst xs =>
        cases e'
        obtain ⟨_, vs, h1, h2⟩ := ok
        exact .lst (SqL.of h1) (dps_sub st.sub h2)
      | fz xs =>
        cases e'
        obtain ⟨vs, h1, h2⟩ := ok
        exact .lst (SqL.of (st.sub _ _ h1)) (dps_sub st.sub h2)

/-! ### outcomes -/
/-- how an exception lies: its class's number, its fields -/
abbrev XT := Nat → List PyData → Value → Option Addr → Hp → Hp → Prop
def Out {α β : Type} (K : PySem.W.Frag) (XR : XT) (rel : Hp → Ad → MH → Hp → α → β → Prop) (W : WX) (s : L2.St) (I : Hp) (A : Ad) (r : Re α) (Q : β → Hp → Prop) : Prop :=
  match r with
  | .ok a m => ∀ I' A' H' b, Ext I A I' A' → ST K I' A' m H' → rel I' A' m H' a b → Q b H'
  | .exn c xs m => ∀ I' A' H' cls d, Ext I A I' A' → ST K I' A' m H' → XR c xs cls d I' H' → W cls d s H'
  | .stuck => False
variable {XR : XT} {W : WX} {s : L2.St}
theorem Out.mono {α β : Type} {rel : Hp → Ad → MH → Hp → α → β → Prop} {I I' : Hp} {A A' : Ad} (e : Ext I A I' A') : ∀ {r : Re α} {Q : β → Hp → Prop}, Out K XR rel W s I A r Q → Out K XR rel W s I' A' r Q
  | .ok _ _, _, h => fun I2 A2 H2 b e2 => h I2 A2 H2 b (e.trans e2)
  | .exn _ _ _, _, h => fun I2 A2 H2 c d e2 => h I2 A2 H2 c d (e.trans e2)
  | .stuck, _, h => h
theorem Out.bind {α β γ δ : Type} {rel : Hp → Ad → MH → Hp → α → β → Prop} {rel2 : Hp → Ad → MH → Hp → γ → δ → Prop} {I : Hp} {A : Ad} {g : α → MH → Re γ} {Q : δ → Hp → Prop} {Q1 : β → Hp → Prop} :
    ∀ {x : Re α}, Out K XR rel2 W s I A (x.bind g) Q → (∀ a m I' A' H' b, Ext I A I' A' → ST K I' A' m H' → rel I' A' m H' a b → Out K XR rel2 W s I' A' (g a m) Q → Q1 b H') → Out K XR rel W s I A x Q1
  | .ok a m, h, f => fun I' A' H' b e st r => f a m I' A' H' b e st r (Out.mono e h)
  | .exn _ _ _, h, _ => h
  | .stuck, h, _ => h
/-- the value is known -/
theorem Out.ok {α β : Type} {rel : Hp → Ad → MH → Hp → α → β → Prop} {I I' : Hp} {A A' : Ad} {a : α} {m : MH} {Q : β → Hp → Prop} {b : β} {H' : Hp} (h : Out K XR rel W s I A (.ok a m) Q) (e : Ext I A I' A') (st : ST K I' A' m H') (r : rel I' A' m H' a b) : Q b H' := h I' A' H' b e st r

/-- a reading made of an evaluation -/
def tG {α β : Type} (K : PySem.W.Frag) (XR : XT) (rel : Hp → Ad → MH → Hp → α → β → Prop) (W : WX) (f : Sl → MH → Re α) : L2.St → Hp → (β → Hp → Prop) → Prop :=
  fun s H Q => ∃ I A σ m, ST K I A m H ∧ SR K I A σ s ∧ Out K XR rel W s I A (f σ m) Q
def relE (K : PySem.W.Frag) : Hp → Ad → MH → Hp → RV → V → Prop := fun I A _ _ x y => RR K I A x y
def relEs (K : PySem.W.Frag) : Hp → Ad → MH → Hp → List RV → List V → Prop := fun I A _ _ x y => RRs K I A x y
def relP (K : PySem.W.Frag) : Hp → Ad → MH → Hp → List PyData → List V → Prop := fun I _ _ _ x y => DpAll K I y x
/-- a list made anew: it is ours alone -/
def relL (K : PySem.W.Frag) : Hp → Ad → MH → Hp → List PyData → V → Prop := fun I A _ H x y => ∃ p vs, y = .ref p ∧ H p = some (.lst vs) ∧ I p = none ∧ p ∉ A ∧ DpAll K I vs x
def relB : Hp → Ad → MH → Hp → Bool → Bool → Prop := fun _ _ _ _ x y => x = y
abbrev tE (K : PySem.W.Frag) (XR : XT) (W : WX) (f : Sl → MH → Re RV) : TE := tG K XR (relE K) W f
abbrev tA (K : PySem.W.Frag) (XR : XT) (W : WX) (f : Sl → MH → Re (List RV)) : TA := tG K XR (relEs K) W f
abbrev tP (K : PySem.W.Frag) (XR : XT) (W : WX) (f : Sl → MH → Re (List PyData)) : TA := tG K XR (relP K) W f
abbrev tL (K : PySem.W.Frag) (XR : XT) (W : WX) (f : Sl → MH → Re (List PyData)) : TE := tG K XR (relL K) W f
abbrev tT (K : PySem.W.Frag) (XR : XT) (W : WX) (f : Sl → MH → Re Bool) : TT := tG K XR relB W f

/-! ### new objects -/
/-- a new address is nowhere -/
theorem ST.fresh {I H : Hp} {A : Ad} {m : MH} (st : ST K I A m H) {p : Addr} (h : H p = none) : I p = none ∧ p ∉ A := by
  have hI : I p = none := by
    cases q : I p with
    | none => rfl
    | some o => rw [st.sub p o q] at h; cases h
  refine ⟨hI, fun hp => ?_⟩
  rcases hp with hp | hp
  case inr =>
    cases q : A.fr p with
    | none => exact hp q
    | some o => rw [(st.fr p o q).1] at h; cases h
  obtain ⟨i, hi, e⟩ := List.getElem_of_mem hp
  have ei : A.l[i]? = some p := by rw [List.getElem?_eq_getElem hi, e]
  have hm : i < m.length := by rw [← st.len]; exact hi
  have ok := st.obj i m[i] p (List.getElem?_eq_getElem hm) ei
  cases o : m[i] with
  | lst xs =>
    rw [o] at ok
    obtain ⟨_, vs, h1, _⟩ := ok
    rw [h1] at h; cases h
  | fz xs =>
    rw [o] at ok
    obtain ⟨vs, h1, _⟩ := ok
    rw [hI] at h1; cases h1
/-- an object at a free address, that changes no more -/
theorem ST.addI {I H : Hp} {A : Ad} {m : MH} (st : ST K I A m H) {p : Addr} {o : HO} (hA : p ∉ A) (hI : I p = none) : ST K (upd I p o) A m (upd H p o) := by
  have sI : Sub I (upd I p o) := fun b u q => by
    rw [upd_ne (ne_of_none q hI)]; exact q
  refine ⟨fun b u q => ?_, st.len, st.nd, fun i u a h1 h2 => ?_, fun b u q => ?_⟩
  · by_cases hb : b = p
    · subst hb; rw [upd_same] at q ⊢; exact q
    · rw [upd_ne hb] at q ⊢; exact st.sub b u q
  rotate_left
  · have ne : b ≠ p := ne_of_none q (Ad.out hA).2
    obtain ⟨x1, x2, x3⟩ := st.fr b u q
    exact ⟨by rw [upd_ne ne]; exact x1, by rw [upd_ne ne]; exact x2, x3⟩
  · have ne : a ≠ p := fun z => (Ad.out hA).1 (by rw [← z]; exact List.mem_of_getElem? h2)
    have ok := st.obj i u a h1 h2
    cases u with
    | lst xs =>
      obtain ⟨h3, vs, h4, h5⟩ := ok
      exact ⟨by rw [upd_ne ne]; exact h3, vs, by rw [upd_ne ne]; exact h4, dps_sub sI h5⟩
    | fz xs =>
      obtain ⟨vs, h4, h5⟩ := ok
      exact ⟨vs, by rw [upd_ne ne]; exact h4, dps_sub sI h5⟩
theorem sub_upd {I : Hp} {p : Addr} {o : HO} (hI : I p = none) : Sub I (upd I p o) := fun b u q => by
  rw [upd_ne (ne_of_none q hI)]; exact q
theorem ext_upd {I : Hp} {A : Ad} {p : Addr} {o : HO} (hI : I p = none) : Ext I A (upd I p o) A := ⟨sub_upd hI, fun _ _ h => h, rfl⟩
/-- an object of ours, free of all, stands in H already: it changes no more -/
theorem ST.keepI {I H : Hp} {A : Ad} {m : MH} (st : ST K I A m H) {p : Addr} {o : HO} (hA : p ∉ A) (hI : I p = none) (hH : H p = some o) : ST K (upd I p o) A m H := by
  have e : upd H p o = H := by
    funext b
    by_cases hb : b = p
    · subst hb; rw [upd_same]; exact hH.symm
    · rw [upd_ne hb]
  have := st.addI (o := o) hA hI
  rw [e] at this
  exact this
/-- an object of ours goes to the small heap -/
theorem ST.addA {I H : Hp} {A : Ad} {m : MH} (st : ST K I A m H) {p : Addr} {vs : List V} {xs : List PyData} (hA : p ∉ A) (hI : I p = none) (hH : H p = some (.lst vs)) (d : DpAll K I vs xs) : ST K I (A.add p) (m ++ [.lst xs]) H := by
  refine ⟨st.sub, by show (A.l ++ [p]).length = _; rw [List.length_append, List.length_append, st.len]; rfl, ?_, fun i u a h1 h2 => ?_, fun b u q => ?_⟩
  rotate_right
  · have ne : b ≠ p := ne_of_none q (Ad.out hA).2
    obtain ⟨x1, x2, x3⟩ := st.fr b u q
    refine ⟨x1, x2, fun z => ?_⟩
    rcases List.mem_append.mp z with z | z
    · exact x3 z
    · exact ne (by simpa using z)
  · show (A.l ++ [p]).Nodup
    rw [List.nodup_append]
    refine ⟨st.nd, by simp, fun a ha b hb e => ?_⟩
    have : b = p := by simpa using hb
    subst this
    subst e
    exact (Ad.out hA).1 ha
  · have h2 : (A.l ++ [p])[i]? = some a := h2
    by_cases hi : i < m.length
    · rw [List.getElem?_append_left hi] at h1
      rw [List.getElem?_append_left (by rw [st.len]; exact hi)] at h2
      exact st.obj i u a h1 h2
    · have hi' : m.length ≤ i := Nat.le_of_not_lt hi
      rw [List.getElem?_append_right hi'] at h1
      rw [List.getElem?_append_right (by rw [st.len]; exact hi'), st.len] at h2
      have hz : i - m.length = 0 := by
        rcases Nat.eq_zero_or_pos (i - m.length) with z | z
        · exact z
        · rw [List.getElem?_eq_none (by simp only [List.length_cons, List.length_nil]; omega)] at h1; cases h1
      rw [hz] at h1 h2
      simp at h1 h2
      subst h1; subst h2
      exact ⟨hI, vs, hH, d⟩
theorem ext_app {I : Hp} {A : Ad} {p : Addr} : Ext I A I (A.add p) := ⟨Sub.refl I, fun i a h => by
  have hi : i < A.l.length := (List.getElem?_eq_some_iff.mp h).1
  show (A.l ++ [p])[i]? = some a
  rw [List.getElem?_append_left hi]; exact h, rfl⟩
/-- a list of the small heap is written -/
theorem ST.write {I H : Hp} {A : Ad} {m : MH} (st : ST K I A m H) {i : Nat} {a : Addr} {vs : List V} {xs ys : List PyData} (hm : m[i]? = some (.lst ys)) (ha : A.l[i]? = some a) (d : DpAll K I vs xs) : ST K I A (m.set i (.lst xs)) (upd H a (.lst vs)) := by
  have hi : i < m.length := (List.getElem?_eq_some_iff.mp hm).1
  have hia : i < A.l.length := (List.getElem?_eq_some_iff.mp ha).1
  obtain ⟨hI, _⟩ := st.obj i _ a hm ha
  refine ⟨fun b o q => by rw [upd_ne (ne_of_none q hI)]; exact st.sub b o q, by rw [List.length_set]; exact st.len, st.nd, fun j u b h1 h2 => ?_, fun b o q => ?_⟩
  rotate_left
  · obtain ⟨x1, x2, x3⟩ := st.fr b o q
    have ne : b ≠ a := fun z => x3 (by rw [z]; exact List.mem_of_getElem? ha)
    exact ⟨by rw [upd_ne ne]; exact x1, x2, x3⟩
  by_cases hj : j = i
  · subst hj
    rw [List.getElem?_set_self hi] at h1
    cases h1
    rw [ha] at h2; cases h2
    exact ⟨hI, vs, upd_same, d⟩
  · rw [List.getElem?_set_ne (Ne.symm hj)] at h1
    have hja : j < A.l.length := (List.getElem?_eq_some_iff.mp h2).1
    have ne : b ≠ a := fun z => hj (nodup_ix2 st.nd h2 (z ▸ ha))
    have ok := st.obj j u b h1 h2
    cases u with
    | lst zs =>
      obtain ⟨h3, ws, h4, h5⟩ := ok
      exact ⟨h3, ws, by rw [upd_ne ne]; exact h4, h5⟩
    | fz zs => exact ok
where
  nodup_ix2 {l : List Addr} (hN : l.Nodup) {i j : Nat} {x : Addr} (a : l[i]? = some x) (b : l[j]? = some x) : i = j := by
    obtain ⟨h1, e1⟩ := List.getElem?_eq_some_iff.mp a
    obtain ⟨h2, e2⟩ := List.getElem?_eq_some_iff.mp b
    exact (List.getElem_inj hN).mp (e1.trans e2.symm)
/-- a list of the small heap changes no more -/
theorem ST.freeze {I H : Hp} {A : Ad} {m : MH} (st : ST K I A m H) {i : Nat} {a : Addr} {xs : List PyData} (hm : m[i]? = some (.lst xs)) (ha : A.l[i]? = some a) :
    ∃ vs, ST K (upd I a (.lst vs)) A (m.set i (.fz xs)) H ∧ I a = none ∧ DpAll K I vs xs := by
  have hi : i < m.length := (List.getElem?_eq_some_iff.mp hm).1
  obtain ⟨hI, vs, hH, d⟩ := st.obj i _ a hm ha
  refine ⟨vs, ⟨fun b o q => ?_, by rw [List.length_set]; exact st.len, st.nd, fun j u b h1 h2 => ?_, fun b o q => ?_⟩, hI, d⟩
  rotate_right
  · obtain ⟨x1, x2, x3⟩ := st.fr b o q
    have ne : b ≠ a := fun z => x3 (by rw [z]; exact List.mem_of_getElem? ha)
    exact ⟨x1, by rw [upd_ne ne]; exact x2, x3⟩
  · by_cases hb : b = a
    · subst hb; rw [upd_same] at q; cases q; exact hH
    · rw [upd_ne hb] at q; exact st.sub b o q
  · by_cases hj : j = i
    · subst hj
      rw [List.getElem?_set_self hi] at h1
      cases h1
      rw [ha] at h2; cases h2
      exact ⟨vs, upd_same, dps_sub (sub_upd hI) d⟩
    · rw [List.getElem?_set_ne (Ne.symm hj)] at h1
      have ne : b ≠ a := fun z => hj (ST.write.nodup_ix2 st.nd h2 (z ▸ ha))
      have ok := st.obj j u b h1 h2
      cases u with
      | lst zs =>
        obtain ⟨h3, ws, h4, h5⟩ := ok
        exact ⟨by rw [upd_ne ne]; exact h3, ws, h4, dps_sub (sub_upd hI) h5⟩
      | fz zs =>
        obtain ⟨ws, h4, h5⟩ := ok
        exact ⟨ws, by rw [upd_ne ne]; exact h4, dps_sub (sub_upd hI) h5⟩
/-- as data that is kept -/
theorem froze_ok {I H : Hp} {A : Ad} {m m' : MH} {v : RV} {y : V} {x : PyData} (st : ST K I A m H) (r : RR K I A v y) (e : froze v m = .ok x m') :
    ∃ I', Ext I A I' A ∧ ST K I' A m' H ∧ Dp K I' y x := by
  cases v with
  | v z =>
    have e' : (Re.ok z m : Re PyData) = .ok x m' := e
    cases e'
    exact ⟨I, Ext.refl, st, r⟩
  | r i =>
    obtain ⟨a, ha, rfl⟩ := r
    have e' : (match m[i]? with
      | some (.lst xs) => Re.ok (PyData.list xs) (m.set i (.fz xs))
      | some (.fz xs) => .ok (.list xs) m
      | none => .stuck) = .ok x m' := e
    cases q : m[i]? with
    | none => rw [q] at e'; cases e'
    | some o =>
      rw [q] at e'
      cases o with
      | lst xs =>
        cases e'
        obtain ⟨vs, st', hI, d⟩ := st.freeze q ha
        exact ⟨_, ext_upd hI, st', .lst (SqL.of upd_same) (dps_sub (sub_upd hI) d)⟩
      | fz xs =>
        cases e'
        obtain ⟨vs, h1, h2⟩ := st.obj i _ a q ha
        exact ⟨I, Ext.refl, st, .lst (SqL.of h1) h2⟩
theorem froze_ok2 {m : MH} {v : RV} : (∃ x m', froze v m = .ok x m') ∨ froze v m = .stuck := by
  cases v with
  | v x => exact .inl ⟨x, m, rfl⟩
  | r i =>
    show (∃ x m', (match m[i]? with
      | some (.lst xs) => Re.ok (PyData.list xs) (m.set i (.fz xs))
      | some (.fz xs) => .ok (.list xs) m
      | none => .stuck) = .ok x m') ∨ (match m[i]? with
      | some (.lst xs) => Re.ok (PyData.list xs) (m.set i (.fz xs))
      | some (.fz xs) => .ok (.list xs) m
      | none => .stuck) = .stuck
    cases m[i]? with
    | none => exact .inr rfl
    | some o => cases o <;> exact .inl ⟨_, _, rfl⟩
end
end Sd

/-! Sd: whether a tree of the model's syntax is the tree of the small language. -/
namespace Sd
open PySem

structure CK where
  /-- the names of the slots -/
  N : List Str
  /-- defs, constants, exception classes of the module -/
  FN : List Str
  CN : List Str
  EN : List Str
  /-- the bases of the exception classes -/
  EB : List Str
  /-- calls by keywords: the def, the names, the places of the parameters among them -/
  KW : List (Nat × List Str × List Nat)
  /-- math.lcm is imported -/
  lcm : Bool
  /-- itertools.combinations is imported -/
  comb : Bool

def plainN (x : Str) : Bool := !(x == ("__debug__" : Str)) && !(x == ("__classdict__" : Str)) && !(x == ("__name__" : Str))
def visB (sc : Scope) (x : Str) : Bool := match sc.names.lookup x with
  | some .local => true
  | some .cell => true
  | some .free => true
  | _ => false
def locB (sc : Scope) (x : Str) : Bool := match sc.names.lookup x with
  | some .local => true
  | some .cell => true
  | _ => false
def lclB (sc : Scope) (x : Str) : Bool := match sc.names.lookup x with
  | some .local => true
  | _ => false
def glB (sc : Scope) (x : Str) : Bool := match sc.names.lookup x with
  | some .globalImplicit => true
  | _ => false
def isCompX : Expr → Bool
  | .ListComp .. => true
  | .SetComp .. => true
  | .DictComp .. => true
  | _ => false
def notStar : Expr → Bool
  | .Starred .. => false
  | _ => true
def plainTg : Expr → Bool
  | .Name .. => true
  | .Tuple .. => true
  | _ => false
def isTupX : Expr → Bool
  | .Tuple .. => true
  | .List .. => true
  | _ => false
/-- a source of a comprehension or a for that is walked as it is -/
def plainIt : Expr → Bool
  | .Set .. => false
  | _ => true
def plainObj : Expr → Bool
  | .Call .. => false
  | _ => true
def isLcm : B1 → Bool
  | .lcm => true
  | _ => false
def plainSl : Expr → Bool
  | .Slice .. => false
  | _ => true
def bopX : Bop → Operator
  | .add => .Add | .sub => .Sub | .mul => .Mult | .fdiv => .FloorDiv | .mod => .Mod | .pow => .Pow
def copX : Cop → CmpOp
  | .eq => .Eq | .ne => .NotEq | .lt => .Lt | .le => .LtE | .gt => .Gt | .ge => .GtE | .inn => .In | .nin => .NotIn
def b1X : B1 → Str
  | .len => "len" | .all => "all" | .any => "any" | .sum => "sum" | .min => "min" | .max => "max" | .tuple => "tuple" | .abs => "abs" | .int => "int" | .lcm => "lcm"
def tyX : Ty → Str
  | .int => "int" | .bool => "bool" | .str => "str" | .list => "list" | .tuple => "tuple"
def setFree : Expr → Bool
  | .Set .. => false
  | _ => true
/-- the kind of a name in a block within -/
def relC (scope sc : Scope) : Scope :=
  { scope with names := scope.names.map fun (n, k) => if (k == .free && sc.kind == .function && sc.names.lookup n == some .cell) then (n, .cell) else (n, k) }
def eqOp (a b : Operator) : Bool := decide (a = b)
def eqCm (a b : CmpOp) : Bool := decide (a = b)
/-- a, b = .. with the stores exchanged: the names -/
def parNames (N : List Str) (sc : Scope) : List Nat → List Expr → Bool
  | [], [] => true
  | i :: is, .Name x _ :: ts => decide (N[i]? = some x) && lclB sc x && parNames N sc is ts
  | _, _ => false
def sameLine : List Expr → Bool
  | [] => true
  | t :: ts => ts.all fun u => u.pos.line == t.pos.line
/-- the stores are not exchanged -/
def noSwap (sc : Scope) (t v : Expr) : Bool :=
  match t, v with
  | .Tuple ts _ _, .Tuple vs _ _ => !(ts.length == 2 || ts.length == 3) || !(vs.length == ts.length) || vs.all (foldedForSure 8) || ts.any fun u => match u with
    | .Name x p => !lclB sc x
    | _ => true
  | .Tuple .., .List .. => true
  | .Tuple .., _ => true
  | .List .., _ => false
  | _, _ => true

mutual
/-- what an except suite hands back; nm: the clause's name, base: the class's base -/
def ckHV (C : CK) (sc : Scope) (nm : Option Str) (base : Str) : HV → Expr → Bool
  | .non, .Constant .none _ _ => true
  | .bl b, .Constant (.bool c) _ _ => b == c
  | .int i, .Constant (.int j) _ _ => decide (i = j)
  | .str x, .Constant (.str y) _ _ => decide (x.toArray = y.cps)
  | .tup vs, .Tuple xs _ _ => ckHVs C sc nm base vs xs && decide (xs.length ≤ 1000)
  | .lst vs, .List xs _ => ckHVs C sc nm base vs xs && decide (xs.length ≤ 1000)
  | .isx, .Call (.Name id _) [.Name n _, .Name b _] [] _ => decide (id = ("isinstance" : Str)) && glB sc id && decide (nm = some n) && decide (b = base) && glB sc b && visB sc n && plainN n && plainN b
  | _, _ => false
def ckHVs (C : CK) (sc : Scope) (nm : Option Str) (base : Str) : HVs → List Expr → Bool
  | .nil, [] => true
  | .cons v vs, x :: xs => notStar x && ckHV C sc nm base v x && ckHVs C sc nm base vs xs
  | _, _ => false
end
def ckHB (C : CK) (sc : Scope) (nm : Option Str) (base : Str) : HB → List Stmt → Bool
  | .ret v, [.Return (some x) _] => ckHV C sc nm base v x
  | .cont, [.Continue _] => match nm with
    | none => true
    | some _ => false
  | _, _ => false
def ckNm (C : CK) (sc : Scope) : Option Nat → Option Str → Bool
  | none, none => true
  | some i, some n => decide (C.N[i]? = some n) && lclB sc n
  | _, _ => false
def ckHs (C : CK) (sc : Scope) : Hs → List ExceptHandler → Bool
  | .nil, [] => true
  | .cons c i b hs, .ExceptHandler (some (.Name x _)) n ss _ :: hds => decide (C.EN[c]? = some x) && glB sc x && plainN x && ckNm C sc i n && (match C.EB[c]? with
    | some base => ckHB C sc n base b ss
    | none => false) && ckHs C sc hs hds
  | _, _ => false
/-- whether the block of a comprehension is left for the store of its list -/
def ckSw (sc : Scope) (id : Str) (p2 : Pos) : Expr → Bool
  | .ListComp _ _ scope pos => (lclB sc id && (p2.line == pos.line) && !(scope.names.any fun (n, k) => n == id && (k == .local || k == .cell))) || (match sc.names.lookup id with
    | some .cell => true
    | _ => false)
  | .SetComp .. => false
  | .DictComp .. => false
  | _ => true
mutual
def ckE (C : CK) : Scope → E → Expr → Bool
  | sc, .var i, .Name id _ => decide (C.N[i]? = some id) && visB sc id && plainN id
  | _, .non, .Constant .none _ _ => true
  | _, .bl b, .Constant (.bool c) _ _ => b == c
  | _, .int i, .Constant (.int j) _ _ => decide (i = j)
  | _, .str x, .Constant (.str y) _ _ => decide (x.toArray = y.cps)
  | sc, .con g, .Name id _ => decide (C.CN[g]? = some id) && glB sc id && plainN id
  | sc, .bop op a b, .BinOp x o y _ => eqOp (bopX op) o && ckE C sc a x && ckE C sc b y
  | sc, .neg a, .UnaryOp .USub x _ => ckE C sc a x
  | sc, .nt a, .UnaryOp .Not x _ => ckE C sc a x
  | sc, .cmp op a b, .Compare x [o] [y] _ => eqCm (copX op) o && setFree y && ckE C sc a x && ckE C sc b y
  | sc, .cmp2 o1 o2 a b c, .Compare x [p1, p2] [y, z] _ => eqCm (copX o1) p1 && eqCm (copX o2) p2 && setFree y && setFree z && ckE C sc a x && ckE C sc b y && ckE C sc c z
  | sc, .isN a, .Compare x [.Is] [.Constant .none _ _] _ => ckE C sc a x
  | sc, .notN a, .Compare x [.IsNot] [.Constant .none _ _] _ => ckE C sc a x
  | sc, .band es, .BoolOp .And xs _ => ckEs C sc es xs
  | sc, .bor es, .BoolOp .Or xs _ => ckEs C sc es xs
  | sc, .ite c a b, .IfExp x y z _ => ckE C sc c x && ckE C sc a y && ckE C sc b z
  | sc, .tup es, .Tuple xs _ _ => ckEs C sc es xs
  | sc, .lst l, x => ckL C sc l x
  | sc, .new l, x => ckL C sc l x
  | sc, .call g es, .Call (.Name id _) xs [] _ => decide (C.FN[g]? = some id) && glB sc id && plainN id && ckEs C sc es xs
  | sc, .callK g ks names perm, .Call (.Name id _) [] kws _ => decide (C.FN[g]? = some id) && glB sc id && plainN id && ckKs C sc ks names kws && decide ((g, names, perm) ∈ C.KW)
  | sc, .callS gs i es, .Call (.Subscript (.List fs _) x _) xs [] _ => ckFs C sc gs fs && plainSl x && !xs.isEmpty && decide (gs.length ≤ 1000) && ckE C sc i x && ckEs C sc es xs
  | sc, .bi f es, .Call (.Name id _) xs [] _ => decide (b1X f = id) && glB sc id && plainN id && (!isLcm f || C.lcm) && !xs.isEmpty && ckEs C sc es xs
  | sc, .isi a t, .Call (.Name id _) [x, .Name ty _] [] _ => decide (id = ("isinstance" : Str)) && glB sc id && decide (tyX t = ty) && glB sc ty && ckE C sc a x
  | sc, .isi2 a t u, .Call (.Name id _) [x, .Tuple [.Name ty _, .Name uy _] _ _] [] _ => decide (id = ("isinstance" : Str)) && glB sc id && decide (tyX t = ty) && glB sc ty && decide (tyX u = uy) && glB sc uy && ckE C sc a x
  | sc, .ix a i, .Subscript x y _ => plainSl y && ckE C sc a x && ckE C sc i y
  | sc, .slt a lo hi, .Subscript x (.Slice l u none _) _ => ckE C sc a x && ckO C sc lo l && ckO C sc hi u
  | sc, .index a x, .Call (.Attribute y at_ ap) [z] [] cp => decide (at_ = ("index" : Str)) && (ap.endLine == cp.line) && plainObj y && notStar z && ckE C sc a y && ckE C sc x z
  | _, .bad, x => notStar x
  | _, _, _ => false
def ckL (C : CK) : Scope → L → Expr → Bool
  | sc, .disp es, .List xs _ => ckEs C sc es xs
  | sc, .comp own t it cs e, .ListComp elt [⟨tg, iter, ifs, 0⟩] scope _ =>
    L2.blkC C.N sc scope ((own.map fun i => ((C.N[i]?).getD (.ofString ""), i))) && ckT C scope t tg && ckI C sc it tg iter && plainIt iter && ckEs C (relC scope sc) cs ifs && ckE C (relC scope sc) e elt && decide (tgSlots t ⊆ own)
  | sc, .sorted e, .Call (.Name id _) [x] [] _ => decide (id = ("sorted" : Str)) && glB sc id && ckE C sc e x
  | sc, .list e, .Call (.Name id _) [x] [] _ => decide (id = ("list" : Str)) && glB sc id && ckE C sc e x
  | sc, .cat a b, .BinOp x .Add y _ => ckE C sc a x && ckE C sc b y
  | sc, .rep a n, .BinOp x .Mult y _ => ckL C sc a x && ckE C sc n y
  | sc, .slice a lo hi, .Subscript x (.Slice l u none _) _ => ckE C sc a x && ckO C sc lo l && ckO C sc hi u
  | _, _, _ => false
def ckEs (C : CK) : Scope → Es → List Expr → Bool
  | _, .nil, [] => true
  | sc, .cons e es, x :: xs => ckE C sc e x && ckEs C sc es xs
  | _, _, _ => false
def ckKs (C : CK) : Scope → Es → List Str → List Keyword → Bool
  | _, .nil, [], [] => true
  | sc, .cons e es, n :: ns, ⟨some m, x, _⟩ :: ks => decide (n = m) && ckE C sc e x && ckKs C sc es ns ks
  | _, _, _, _ => false
def ckO (C : CK) : Scope → Eo → Option Expr → Bool
  | _, .non, none => true
  | sc, .some e, some x => ckE C sc e x
  | _, _, _ => false
def ckT (C : CK) : Scope → Tg → Expr → Bool
  | sc, .var i, .Name id _ => decide (C.N[i]? = some id) && locB sc id
  | sc, .tup ts, .Tuple xs _ _ => ckTs C sc ts xs
  | _, _, _ => false
def ckTs (C : CK) : Scope → Tgs → List Expr → Bool
  | _, .nil, [] => true
  | sc, .cons t ts, x :: xs => ckT C sc t x && ckTs C sc ts xs
  | _, _, _ => false
def ckI (C : CK) : Scope → It → Expr → Expr → Bool
  | sc, .seq e, _, x => ckE C sc e x
  | sc, .rng a, _, .Call (.Name id _) [x] [] _ => decide (id = ("range" : Str)) && glB sc id && ckE C sc a x
  | sc, .rng2 a b, _, .Call (.Name id _) [x, y] [] _ => decide (id = ("range" : Str)) && glB sc id && ckE C sc a x && ckE C sc b y
  | sc, .enum e, .Tuple _ _ _, .Call (.Name id _) [x] [] _ => decide (id = ("enumerate" : Str)) && glB sc id && ckE C sc e x
  | sc, .zip a b, .Tuple _ _ _, .Call (.Name id _) [x, y] [] _ => decide (id = ("zip" : Str)) && glB sc id && ckE C sc a x && ckE C sc b y
  | sc, .comb a n, .Name _ _, .Call (.Name id _) [.Call (.Name id2 _) [x] [] _, y] [] _ => C.comb && decide (id = ("combinations" : Str)) && glB sc id && decide (id2 = ("range" : Str)) && glB sc id2 && ckE C sc a x && ckE C sc n y
  | _, _, _, _ => false
def ckFs (C : CK) : Scope → List Nat → List Expr → Bool
  | _, [], [] => true
  | sc, g :: gs, .Name id _ :: xs => decide (C.FN[g]? = some id) && glB sc id && plainN id && ckFs C sc gs xs
  | _, _, _ => false
/-- the slots of a target -/
def tgSlots : Tg → List Nat
  | .var i => [i]
  | .tup ts => tgsSlots ts
def tgsSlots : Tgs → List Nat
  | .nil => []
  | .cons t ts => tgSlots t ++ tgsSlots ts
end

def ckPar (C : CK) (sc : Scope) : List Nat → List Expr → List Expr → Bool
  | [i, j], [.Name x px, .Name y py], [a, b] => decide (C.N[i]? = some x) && decide (C.N[j]? = some y) && lclB sc x && lclB sc y && decide (i ≠ j) && decide (x ≠ y) && (py.line == px.line) && notStar a && notStar b && !([a, b].all (foldedForSure 8)) && !([a, b].all (constantsAlone 8))
  | [i, j, l], [.Name x px, .Name y py, .Name z pz], [a, b, c] => decide (C.N[i]? = some x) && decide (C.N[j]? = some y) && decide (C.N[l]? = some z) && lclB sc x && lclB sc y && lclB sc z && decide (i ≠ j) && decide (i ≠ l) && decide (j ≠ l) && decide (x ≠ y) && decide (x ≠ z) && decide (y ≠ z) && (py.line == px.line) && (pz.line == px.line) &&
    notStar a && notStar b && notStar c && !([a, b, c].all (foldedForSure 8)) && !([a, b, c].all (constantsAlone 8))
  | _, _, _ => false
mutual
def ckS (C : CK) (sc : Scope) : S → Stmt → Bool
  | .bad, _ => true
  | .expr e, .Expr x _ => !isCompX x && ckE C sc e x
  | .ret e, .Return (some x) _ => ckE C sc e x
  | .retN, .Return none _ => true
  | .asg t e, .Assign [x] y _ => !isCompX y && plainTg x && noSwap sc x y && ckT C sc t x && ckE C sc e y
  | .asgL i l _, .Assign [.Name id p2] y _ => decide (C.N[i]? = some id) && locB sc id && ckSw sc id p2 y && ckL C sc l y
  | .par is es, .Assign [.Tuple ts _ _] (.Tuple vs _ _) _ => ckPar C sc is ts vs && ckEs C sc es vs
  | .aug i .add e, .AugAssign (.Name id _) .Add y _ => decide (C.N[i]? = some id) && locB sc id && ckE C sc e y
  | .aug i .sub e, .AugAssign (.Name id _) .Sub y _ => decide (C.N[i]? = some id) && locB sc id && ckE C sc e y
  | .app i e, .Expr (.Call (.Attribute (.Name id _) at_ ap) [y] [] cp) _ => decide (at_ = ("append" : Str)) && decide (C.N[i]? = some id) && visB sc id && plainN id && (ap.endLine == cp.line) && ckE C sc e y
  | .ite c a b, .If x ys zs _ => ckE C sc c x && ckSs C sc a ys && ckSs C sc b zs
  | .for t it b, .For tg iter ys [] _ => ckT C sc t tg && ckI C sc it tg iter && plainIt iter && ckSs C sc b ys
  | .raise c .nil, .Raise (some (.Call (.Name id _) [] [] _)) none _ => decide (C.EN[c]? = some id) && glB sc id && plainN id
  | .tryR b hs, .Try ys (h :: hds) [] [] _ => ckSs C sc b ys && ckHs C sc hs (h :: hds)
  | .cont, .Continue _ => true
  | .brk, .Break _ => true
  | .pass, .Pass _ => true
  | _, _ => false
def ckSs (C : CK) (sc : Scope) : Ss → List Stmt → Bool
  | .nil, [] => true
  | .cons s ss, x :: xs => ckS C sc s x && ckSs C sc ss xs
  | _, _ => false
end
end Sd

/-! Sd: the rules, one a form of the small language: expressions. -/
namespace Sd
open L2 PySem PySem.Spec PyProof.Rows

theorem pe_imp {X : Cx} {e : Expr} {t t' : TE} (h : PE X e t) (k : ∀ s H Q, t' s H Q → t s H Q) : PE X e t' := ⟨fun pins s σ H Q I q => h.run pins s σ H Q I (k σ H Q q)⟩
theorem pt_imp {X : Cx} {e : Expr} {t t' : TT} (h : PT X e t) (k : ∀ s H Q, t' s H Q → t s H Q) : PT X e t' := ⟨fun pins s σ H Q I q => h.run pins s σ H Q I (k σ H Q q)⟩
theorem pw_imp {X : Cx} {e : Expr} {t t' : TT} (h : PW X e t) (k : ∀ s H Q, t' s H Q → t s H Q) : PW X e t' := ⟨fun wh pins s σ H Q I q => h.run wh pins s σ H Q I (k σ H Q q)⟩
theorem pa_imp {X : Cx} {es : List Expr} {t t' : TA} (h : PA X es t) (k : ∀ s H Q, t' s H Q → t s H Q) : PA X es t' := ⟨fun pos pins s σ H Q I q => h.run pos pins s σ H Q I (k σ H Q q)⟩

section
variable {K : PySem.W.Frag} {XR : XT} {W : WX} {s : L2.St} {I : Hp} {A : Ad}
/-- what comes of dat -/
theorem dat_bind {α : Type} {x : Re RV} {f : PyData → MH → Re α} : (dat x).bind f = x.bind fun v m => (liftO (snap v m) m).bind f := by
  cases x <;> rfl
theorem datP_bind {α : Type} {x : Re RV} {f : PyData → MH → Re α} : (datP x).bind f = x.bind fun v m => (froze v m).bind f := by
  cases x <;> rfl
/-- a datum, as it stands now -/
def Now (K : PySem.W.Frag) (I H : Hp) (y : V) (x : PyData) : Prop := Dp K I y x ∨ ∃ p vs xs, x = .list xs ∧ y = .ref p ∧ H p = some (.lst vs) ∧ DpAll K I vs xs
theorem now_snap {H : Hp} {m : MH} (st : ST K I A m H) : ∀ {v : RV} {y : V} {x : PyData}, RR K I A v y → snap v m = some x → Now K I H y x
  | .v z, y, x, r, e => by
    have e' : z = x := Option.some.inj e
    subst e'
    exact .inl r
  | .r i, y, x, r, e => by
    obtain ⟨a, ha, rfl⟩ := r
    have e' : (match m[i]? with
      | some (.lst xs) => some (PyData.list xs)
      | some (.fz xs) => some (PyData.list xs)
      | none => none) = some x := e
    cases q : m[i]? with
    | none => rw [q] at e'; cases e'
    | some o =>
      rw [q] at e'
      have ok := st.obj i o a q ha
      cases o with
      | lst xs =>
        cases e'
        obtain ⟨_, vs, h1, h2⟩ := ok
        exact .inr ⟨a, vs, xs, rfl, rfl, h1, h2⟩
      | fz xs =>
        cases e'
        obtain ⟨vs, h1, h2⟩ := ok
        exact .inl (.lst (SqL.of h1) h2)
theorem Now.dp {H : Hp} {y : V} {x : PyData} (s : Sub I H) (h : Now K I H y x) : Dp K H y x := by
  rcases h with h | ⟨p, vs, xs, rfl, rfl, h1, h2⟩
  · exact dp_sub s h
  · exact .lst (SqL.of h1) (dps_sub s h2)
theorem Now.intv {H : Hp} {y : V} {i : Int} (h : Now K I H y (.int i)) : y = .int i := by
  rcases h with h | ⟨_, _, _, e, _⟩
  · cases h; rfl
  · cases e
theorem Now.blv {H : Hp} {y : V} {i : Bool} (h : Now K I H y (.bool i)) : y = .bl i := by
  rcases h with h | ⟨_, _, _, e, _⟩
  · cases h; rfl
  · cases e
theorem Now.nonv {H : Hp} {y : V} (h : Now K I H y .none) : y = .non := by
  rcases h with h | ⟨_, _, _, e, _⟩
  · cases h; rfl
  · cases e
theorem Now.strv {H : Hp} {y : V} {z : Str} (h : Now K I H y (.str z)) : y = .str z := by
  rcases h with h | ⟨_, _, _, e, _⟩
  · cases h; rfl
  · cases e
theorem Now.tupv {H : Hp} {y : V} {xs : List PyData} (h : Now K I H y (.tuple xs)) : ∃ p vs, y = .ref p ∧ SqT K I p vs ∧ DpAll K I vs xs := by
  rcases h with h | ⟨_, _, _, e, _⟩
  · cases h with
    | tup a b => exact ⟨_, _, rfl, a, b⟩
  · cases e
theorem Now.lstv {H : Hp} {y : V} {xs : List PyData} (s : Sub I H) (h : Now K I H y (.list xs)) : ∃ p vs, y = .ref p ∧ SqL K H p vs ∧ DpAll K I vs xs := by
  rcases h with h | ⟨p, vs, ws, e, rfl, h1, h2⟩
  · cases h with
    | lst a b => exact ⟨_, _, rfl, sqL_sub s a, b⟩
  · cases e
    exact ⟨p, vs, rfl, SqL.of h1, h2⟩
theorem tru_v {H : Hp} {y : V} {x : PyData} {k : Bool} (s : Sub I H) (h : Now K I H y x) (e : tru x = some k) : TruV K y H k := by
  cases x with
  | none => rw [h.nonv]; exact (Option.some.inj e).symm
  | bool b => rw [h.blv]; exact (Option.some.inj e).symm
  | int i =>
    rw [h.intv]
    have e' : decide (i ≠ 0) = k := Option.some.inj e
    show k = (i != 0)
    rw [← e', Bool.eq_iff_iff]; simp
  | str z => cases e
  | list xs =>
    obtain ⟨p, vs, rfl, h1, h2⟩ := h.lstv s
    have e' : (!xs.isEmpty) = k := Option.some.inj e
    refine .inl ⟨vs, h1, ?_⟩
    rw [← e']
    have := DpAll.len h2
    cases vs <;> cases xs <;> simp_all
  | tuple xs =>
    obtain ⟨p, vs, rfl, h1, h2⟩ := h.tupv
    have e' : (!xs.isEmpty) = k := Option.some.inj e
    refine .inr (.inl ⟨vs, sqT_sub s h1, ?_⟩)
    rw [← e']
    have := DpAll.len h2
    cases vs <;> cases xs <;> simp_all
  | dict _ => cases e
end

/-! ### what the surroundings must be -/
def builtNames : List Str := ["len", "all", "any", "sum", "min", "max", "tuple", "abs", "int", "isinstance", "bool", "str", "list", "range", "enumerate", "zip", "sorted"]
/-- a def's promise, told by the evaluator -/
def spOf (K : PySem.W.Frag) (XR : XT) (cf : CF) (g : Nat) : Sp := fun vs H Q E => ∃ I A m args, ST K I A m H ∧ RRs K I A args vs ∧ Out K XR (relE K) (fun c d _ H' => E c d H') [] I A (cf g args m) Q
/-- the values of a call by keywords, in the parameters' order -/
def gK {α : Type} (perm : List Nat) : List α → List α → List α
  | [], ws => (pick ws perm).getD []
  | _ :: _, _ => []
structure G (C : CK) (cf : CF) (cs : List PyData) (XR : XT) (k : Nat) (X : Cx) : Prop where
  N : X.N = C.N
  calm : X.calm = true
  nd : X.N.Nodup
  room : Room k X.A
  blt : ∀ x ∈ builtNames, X.mg x = none
  fns : ∀ (g : Nat) (id : Str), C.FN[g]? = some id → ∃ f fd ps, X.mg id = some (.ref f) ∧ PySem.W.keepIn X.K (.ref f) = true ∧ Binds X.K fd ps [] ∧ FnOk X.prog X.w X.K X.mg X.base (L2.CX X.prog X.w) k f fd ps (spOf X.K XR cf g) ∧ ∀ names perm, (g, names, perm) ∈ C.KW → KBinds X.K fd ps names (gK perm) (gK perm)
  lcm : C.lcm = true → X.mg "lcm" = some (.builtin "math.lcm")
  comb : C.comb = true → X.mg "combinations" = some (.type "itertools.combinations")
  con : ∀ (g : Nat) (id : Str) (x : PyData), C.CN[g]? = some id → cs[g]? = some x → ∃ i t, x = .int i ∧ X.mg id = some (.int i t)
section
variable {C : CK} {cf : CF} {cs : List PyData} {XR : XT} {k : Nat} {X : Cx}
theorem G.blk (g : G C cf cs XR k X) (s : Shared) (H : Hp) (scope : Scope) (cenv : PySem.Env) (fp : List Addr) : G C cf cs XR k (X.blk s H scope cenv fp) := ⟨g.N, g.calm, g.nd, g.room, g.blt, g.fns, g.lcm, g.comb, g.con⟩
theorem G.tr (g : G C cf cs XR k X) (pn : List (Addr × Obj)) (xe : Value → Shared → Prop) : G C cf cs XR k (X.tr pn xe) := ⟨g.N, g.calm, g.nd, g.room, g.blt, g.fns, g.lcm, g.comb, g.con⟩
theorem G.hu (g : G C cf cs XR k X) : X.A.units + 64 < cLine := g.room.units
theorem G.hu0 (g : G C cf cs XR k X) : X.A.units < cLine := g.room.units0
end

/-! ### names, constants -/
section
variable {K : PySem.W.Frag} {XR : XT} {W : WX} {X : Cx} {cf : CF} {cs : List PyData} {sc : Scope}
theorem vis_of {sc : Scope} {x : Str} (h : visB sc x = true) : Vis sc x := by
  unfold visB at h
  split at h
  · rename_i e; exact .inl e
  · rename_i e; exact .inr (.inl e)
  · rename_i e; exact .inr (.inr e)
  · cases h
theorem loc_of {sc : Scope} {x : Str} (h : locB sc x = true) : Loc sc x := by
  unfold locB at h
  split at h
  · rename_i e; exact .inl e
  · rename_i e; exact .inr e
  · cases h
theorem gl_of {sc : Scope} {x : Str} (h : glB sc x = true) : sc.names.lookup x = some .globalImplicit := by
  unfold glB at h
  split at h
  · rename_i e; exact e
  · cases h
theorem plainN_of {x : Str} (h : plainN x = true) : (x == ("__debug__" : Str)) = false ∧ (x == ("__classdict__" : Str)) = false ∧ (x == ("__name__" : Str)) = false := by
  unfold plainN at h
  simp only [Bool.and_eq_true, Bool.not_eq_true'] at h
  exact ⟨h.1.1, h.1.2, h.2⟩
theorem s_const {e : Expr} {x : PyData} {y : V} {f : Sl → MH → Re RV} (hf : ∀ σ m, f σ m = .ok (.v x) m) (hd : ∀ I, Dp X.K I y x) (h : PE X e (tC y)) : PE X e (tE X.K XR W f) := pe_imp h fun s H Q ⟨I, A, σ, m, st, sr, o⟩ => by
  rw [hf] at o
  exact o I A H y Ext.refl st (hd I)
theorem s_var {i : Nat} {id : Str} {p : Pos} (hN : X.N[i]? = some id) (hv : Vis X.env.scope id) (hp : plainN id = true) : PE X (.Name id p) (tE X.K XR W (ev cf cs (.var i))) :=
  pe_imp (pe_var hN hv (plainN_of hp).1 (plainN_of hp).2.1) fun s H Q ⟨I, A, σ, m, st, sr, o⟩ => by
    have o' : Out X.K XR (relE X.K) W s I A (match σ[i]? with
      | some (some v) => .ok v m
      | _ => .stuck) Q := o
    split at o'
    · rename_i v e
      obtain ⟨y, h1, h2⟩ := sr.at_ i v e
      exact ⟨y, h1, o' I A H y Ext.refl st h2⟩
    · exact o'.elim
theorem s_con {C : CK} {k : Nat} (G0 : G C cf cs XR k X) {g : Nat} {id : Str} {p : Pos} (hc : C.CN[g]? = some id) (hg : Gl X id) (hp : plainN id = true) : PE X (.Name id p) (tE X.K XR W (ev cf cs (.con g))) := by
  cases e : cs[g]? with
  | none =>
    refine ⟨fun pins s σ H Q I h => ?_⟩
    obtain ⟨_, _, σ', m, _, _, o⟩ := h
    have o' : Out X.K XR (relE X.K) W σ _ _ (match cs[g]? with
      | some x => Re.ok (RV.v x) m
      | none => .stuck) Q := o
    rw [e] at o'
    exact o'.elim
  | some x =>
    obtain ⟨i, t, rfl, hm⟩ := G0.con g id x hc e
    exact s_const (fun σ m => by show (match cs[g]? with | some x => Re.ok (RV.v x) m | none => .stuck) = _; rw [e]) (fun I => .int i) (pe_glob hg hm ⟨t, rfl⟩ (plainN_of hp).1)
end
end Sd

/-! Sd: operators, comparisons, truth. -/
namespace Sd
open L2 PySem PySem.Spec PyProof.Rows

/-- what comes of two data: f; the answer is a datum -/
def rD (K : PySem.W.Frag) (f : PyData → PyData → Option PyData) : R2 := fun x y H Q => ∃ I A m d e z, ST K I A m H ∧ Now K I H x d ∧ Now K I H y e ∧ f d e = some z ∧
  ∀ I' H' y', Ext I A I' A → ST K I' A m H' → Dp K I' y' z → Q y' H'
/-- a place of the evaluator where two operands have come -/
theorem two_ok {K : PySem.W.Frag} {XR : XT} {W : WX} {s : L2.St} {fa fb : Sl → MH → Re RV} {f : PyData → PyData → Option PyData} {H : Hp} {Q : VK}
    (h : tE K XR W (fun σ m => (fa σ m).bind fun v h1 => (fb σ h1).bind fun w h2 => snap2 v w h2 fun x y => liftO ((f x y).map RV.v) h2) s H Q) :
    tOp (rD K f) (tE K XR W fa) (tE K XR W fb) s H Q := by
  obtain ⟨I, A, σ, m, st, sr, o⟩ := h
  refine ⟨I, A, σ, m, st, sr, Out.bind o fun v m1 I1 A1 H1 y1 e1 st1 r1 o1 => ?_⟩
  refine ⟨I1, A1, σ, m1, st1, sr.mono e1, Out.bind o1 fun w m2 I2 A2 H2 y2 e2 st2 r2 o2 => ?_⟩
  have r1' : RR K I2 A2 v y1 := RR.mono e2 r1
  unfold snap2 at o2
  cases q1 : snap v m2 with
  | none => rw [q1] at o2; exact o2.elim
  | some d =>
    rw [q1] at o2
    cases q2 : snap w m2 with
    | none => rw [q2] at o2; exact o2.elim
    | some e =>
      rw [q2] at o2
      dsimp only at o2
      cases q3 : f d e with
      | none => rw [q3] at o2; exact o2.elim
      | some z =>
        rw [q3] at o2
        exact ⟨I2, A2, m2, d, e, z, st2, now_snap st2 r1' q1, now_snap st2 r2 q2, q3, fun I' H' y' x st' dp => o2 I' A2 H' y' x st' dp⟩

section
variable {X : Cx} {C : CK} {cf : CF} {cs : List PyData} {XR : XT} {k : Nat} {W : WX}
/-- the answer is an int, a bool -/
theorem rD_int {K : PySem.W.Frag} {I H : Hp} {A : Ad} {m : MH} {z : Int} {Q : VK} (st : ST K I A m H) (q : ∀ I' H' y', Ext I A I' A → ST K I' A m H' → Dp K I' y' (.int z) → Q y' H') : Q (.int z) H := q I H _ Ext.refl st (.int z)
theorem rD_bl {K : PySem.W.Frag} {I H : Hp} {A : Ad} {m : MH} {z : Bool} {Q : VK} (st : ST K I A m H) (q : ∀ I' H' y', Ext I A I' A → ST K I' A m H' → Dp K I' y' (.bool z) → Q y' H') : Q (.bl z) H := q I H _ Ext.refl st (.bl z)
theorem line_ge : 200000 ≤ sizeLine := by rw [sizeLine_eq]; decide
theorem sized_le {α : Type} {xs : List α} (h : sized xs = true) : xs.length ≤ 100000 := of_decide_eq_true h
/-- a new tuple -/
theorem new_tup {K : PySem.W.Frag} {I H : Hp} {A : Ad} {m : MH} {vs : List V} {xs : List PyData} {Q : VK} (st : ST K I A m H) (d : DpAll K I vs xs)
    (q : ∀ I' H' y', Ext I A I' A → ST K I' A m H' → Dp K I' y' (.tuple xs) → Q y' H') : ∀ p, H p = none → Q (.ref p) (upd H p (.tup vs)) := fun p hp => by
  obtain ⟨hI, hA⟩ := st.fresh hp
  exact q (upd I p (.tup vs)) _ _ (ext_upd hI) (st.addI hA hI) (.tup (SqT.of upd_same) (dps_sub (sub_upd hI) d))
theorem rep_flat {K : PySem.W.Frag} {I : Hp} {vs : List V} {xs : List PyData} (d : DpAll K I vs xs) : ∀ n, DpAll K I (List.replicate n vs).flatten (List.replicate n xs).flatten
  | 0 => by simp only [List.replicate_zero, List.flatten_nil]; exact .nil
  | n + 1 => by
    simp only [List.replicate_succ, List.flatten_cons]
    exact DpAll.app d (rep_flat d n)

theorem o_bop (op : Bop) (hc : X.calm = true) : OpR X (binaryOp (bopX op)) (rD X.K (bop op)) := by
  intro pins s σ H x y v u Q Iv rx ry h
  obtain ⟨I, A, m, d, e, z, st, nx, ny, hf, q⟩ := h
  cases op with
  | add =>
    cases d <;> cases e <;> simp only [bop, reduceCtorEq] at hf
    · cases hf
      rw [nx.intv] at rx
      rw [ny.intv] at ry
      exact op_add pins s σ H _ _ v u Q Iv rx ry ⟨_, _, rfl, rfl, rD_int st q⟩
    · rename_i xs ys
      have hf' : (if sized xs && sized ys then some (PyData.tuple (xs ++ ys)) else none) = some z := hf
      split at hf'
      · rename_i hs
        rw [Bool.and_eq_true] at hs
        cases hf'
        obtain ⟨p, vs, rfl, h1, h2⟩ := nx.tupv
        obtain ⟨r, ws, rfl, h3, h4⟩ := ny.tupv
        have l1 := DpAll.len h2
        have l2 := DpAll.len h4
        have z1 := sized_le hs.1
        have z2 := sized_le hs.2
        refine op_catA pins s σ H _ _ v u Q Iv rx ry ⟨p, r, vs, ws, rfl, rfl, sqT_sub st.sub h1, sqT_sub st.sub h3, by have := line_ge; omega, fun e => ?_, fun _ e => ?_, fun _ _ => new_tup st (DpAll.app h2 h4) q⟩
        · subst e
          cases h2
          exact q I H _ Ext.refl st (.tup h3 h4)
        · subst e
          cases h4
          refine q I H _ Ext.refl st ?_
          rw [List.append_nil]
          exact .tup h1 h2
      · cases hf'
  | sub =>
    cases d <;> cases e <;> simp only [bop, reduceCtorEq] at hf
    cases hf
    rw [nx.intv] at rx
    rw [ny.intv] at ry
    exact op_sub pins s σ H _ _ v u Q Iv rx ry ⟨_, _, rfl, rfl, rD_int st q⟩
  | mul =>
    cases d <;> cases e <;> simp only [bop, reduceCtorEq] at hf
    · rename_i a b
      have hf' : (if (-two64 < a && a < two64) || (-two64 < b && b < two64) then some (PyData.int (a * b)) else none) = some z := hf
      split at hf'
      · rename_i hs
        cases hf'
        rw [nx.intv] at rx
        rw [ny.intv] at ry
        refine op_mul pins s σ H _ _ v u Q Iv rx ry ⟨_, _, rfl, rfl, ?_, rD_int st q⟩
        simp only [Bool.or_eq_true, Bool.and_eq_true, decide_eq_true_eq] at hs
        unfold CMul
        unfold two64 at hs
        omega
      · cases hf'
    · rename_i xs n
      have hf' : (if !xs.isEmpty && decide (xs.length ≤ 1000) && decide (2 ≤ n) && decide (n ≤ 1000) then some (PyData.tuple (List.replicate n.toNat xs).flatten) else none) = some z := hf
      split at hf'
      · rename_i hs
        cases hf'
        obtain ⟨p, vs, rfl, h1, h2⟩ := nx.tupv
        rw [ny.intv] at ry
        simp only [Bool.and_eq_true, decide_eq_true_eq, Bool.not_eq_true'] at hs
        have l1 := DpAll.len h2
        refine op_repT pins s σ H _ _ v u Q Iv rx ry ⟨p, n, vs, rfl, rfl, sqT_sub st.sub h1, fun e => ?_, hs.1.2, hs.2, by omega, new_tup st (rep_flat h2 _) q⟩
        subst e
        cases h2
        have := hs.1.1.1
        simp at this
      · cases hf'
  | fdiv =>
    cases d <;> cases e <;> simp only [bop, reduceCtorEq] at hf
    rename_i a b
    have hf' : (if 0 < b && b < two30 then some (PyData.int (a / b)) else none) = some z := hf
    split at hf'
    · rename_i hs
      cases hf'
      rw [nx.intv] at rx
      rw [ny.intv] at ry
      simp only [Bool.and_eq_true, decide_eq_true_eq] at hs
      exact op_fdiv pins s σ H _ _ v u Q Iv rx ry ⟨_, _, rfl, rfl, ⟨hs.1, hs.2⟩, rD_int st q⟩
    · cases hf'
  | mod =>
    cases d <;> cases e <;> simp only [bop, reduceCtorEq] at hf
    rename_i a b
    have hf' : (if 0 < b then some (PyData.int (a % b)) else none) = some z := hf
    split at hf'
    · rename_i hs
      cases hf'
      rw [nx.intv] at rx
      rw [ny.intv] at ry
      exact op_mod pins s σ H _ _ v u Q Iv rx ry ⟨_, _, rfl, rfl, hs, rD_int st q⟩
    · cases hf'
  | pow => cases d <;> cases e <;> simp only [bop, reduceCtorEq] at hf

theorem s_bop {op : Bop} {a b : E} {x y : Expr} {p : Pos} (hc : X.calm = true) (ha : PE X x (tE X.K XR W (ev cf cs a))) (hb : PE X y (tE X.K XR W (ev cf cs b))) :
    PE X (.BinOp x (bopX op) y p) (tE X.K XR W (ev cf cs (.bop op a b))) := pe_imp (pe_op (o_bop op hc) ha hb) fun s H Q h => two_ok h

/-! ### comparisons -/
theorem depth_in {x : PyData} (h : SeqAt.shaped x = true) : x.canLay0 = true ∧ x.depth ≤ 64 := ⟨SeqAt.canLay_of_shaped h, SeqAt.depth_of_shaped h⟩
theorem isInD_any (x : PyData) : ∀ ys : List PyData, isInD x ys = ys.any fun y => PyData.eqv y x
  | [] => rfl
  | y :: ys => by
    show (PyData.eqv y x || isInD x ys) = _
    rw [List.any_cons, isInD_any x ys]
theorem o_cop (op : Cop) (hc : X.calm = true) (hu : X.A.units + 64 < cLine) (hu1 : X.A.units + 66 < cLine) : OpR X (compareOp (copX op)) (rD X.K fun x y => (cop op x y).map PyData.bool) := by
  intro pins s σ H x y v u Q Iv rx ry h
  obtain ⟨I, A, m, d, e, z, st, nx, ny, hf, q⟩ := h
  have hf : Option.map PyData.bool (cop op d e) = some z := hf
  cases hb : cop op d e with
  | none => rw [hb] at hf; cases hf
  | some b =>
    rw [hb] at hf
    cases hf
    have fin : Q (.bl b) H := rD_bl st q
    have dx := nx.dp st.sub
    have dy := ny.dp st.sub
    obtain ⟨as, r1⟩ := L2.Dp.reads Iv d x v dx.up rx
    obtain ⟨bs, r2⟩ := L2.Dp.reads Iv e y u dy.up ry
    have fin' : ∀ s', Inv X pins σ H s' → EP X pins σ Q (.bool b) s' := fun s' I' => ⟨.bl b, H, I', rfl, fin⟩
    cases op with
    | eq =>
      have hb' : (if SeqAt.shaped d && SeqAt.shaped e then some (PyData.eqv d e) else none) = some b := by simpa only [cop] using hb
      split at hb'
      · rename_i hs
        rw [Bool.and_eq_true] at hs
        cases hb'
        exact op_eqD hu pins s σ H x y v u Q Iv rx ry ⟨d, e, dx.up, dy.up, hs.1, hs.2, fin⟩
      · cases hb'
    | ne =>
      have hb' : (if SeqAt.shaped d && SeqAt.shaped e then some (!PyData.eqv d e) else none) = some b := by simpa only [cop] using hb
      split at hb'
      · rename_i hs
        rw [Bool.and_eq_true] at hs
        cases hb'
        exact op_neD hu pins s σ H x y v u Q Iv rx ry ⟨d, e, dx.up, dy.up, hs.1, hs.2, fin⟩
      · cases hb'
    | lt =>
      cases d <;> cases e <;> simp only [cop, reduceCtorEq] at hb
      cases hb
      rw [nx.intv] at rx
      rw [ny.intv] at ry
      exact op_lt pins s σ H _ _ v u Q Iv rx ry ⟨_, _, rfl, rfl, fin⟩
    | le =>
      cases d <;> cases e <;> simp only [cop, reduceCtorEq] at hb
      cases hb
      rw [nx.intv] at rx
      rw [ny.intv] at ry
      exact op_le pins s σ H _ _ v u Q Iv rx ry ⟨_, _, rfl, rfl, fin⟩
    | gt =>
      cases d <;> cases e <;> simp only [cop, reduceCtorEq] at hb
      cases hb
      rw [nx.intv] at rx
      rw [ny.intv] at ry
      exact op_gt pins s σ H _ _ v u Q Iv rx ry ⟨_, _, rfl, rfl, fin⟩
    | ge =>
      cases d <;> cases e <;> simp only [cop, reduceCtorEq] at hb
      cases hb
      rw [nx.intv] at rx
      rw [ny.intv] at ry
      exact op_ge pins s σ H _ _ v u Q Iv rx ry ⟨_, _, rfl, rfl, fin⟩
    | inn =>
      cases e <;> simp only [cop, reduceCtorEq] at hb
      · rename_i ys
        split at hb
        · rename_i hs
          rw [Bool.and_eq_true] at hs
          obtain ⟨c1, c2⟩ := depth_in hs.1
          obtain ⟨c3, c4⟩ := depth_in hs.2
          cases hb
          have q' := fin' s Iv
          rw [isInD_any] at q'
          exact SeqAt.in_list_reads r2 r1 (by simpa only [PyData.canLay0] using c3) c1 (by omega) q'
        · cases hb
      · rename_i ys
        split at hb
        · rename_i hs
          rw [Bool.and_eq_true] at hs
          obtain ⟨c1, c2⟩ := depth_in hs.1
          obtain ⟨c3, c4⟩ := depth_in hs.2
          cases hb
          have q' := fin' s Iv
          rw [isInD_any] at q'
          exact SeqAt.in_tuple_reads r2 r1 (by simpa only [PyData.canLay0] using c3) c1 (by omega) q'
        · cases hb
    | nin =>
      cases e <;> simp only [cop, reduceCtorEq] at hb
      · rename_i ys
        split at hb
        · rename_i hs
          rw [Bool.and_eq_true] at hs
          obtain ⟨c1, c2⟩ := depth_in hs.1
          obtain ⟨c3, c4⟩ := depth_in hs.2
          cases hb
          have q' := fin' s Iv
          rw [isInD_any] at q'
          exact SeqAt.notIn_list_reads r2 r1 (by simpa only [PyData.canLay0] using c3) c1 (by omega) q'
        · cases hb
      · rename_i ys
        split at hb
        · rename_i hs
          rw [Bool.and_eq_true] at hs
          obtain ⟨c1, c2⟩ := depth_in hs.1
          obtain ⟨c3, c4⟩ := depth_in hs.2
          cases hb
          have q' := fin' s Iv
          rw [isInD_any] at q'
          exact SeqAt.notIn_tuple_reads r2 r1 (by simpa only [PyData.canLay0] using c3) c1 (by omega) q'
        · cases hb
theorem G.hu1 {X : Cx} {C : CK} {cf : CF} {cs : List PyData} {XR : XT} {k : Nat} (g : G C cf cs XR k X) : X.A.units + 66 < cLine := by have := g.room.un; omega
theorem mark_of {op : CmpOp} {y : Expr} (h : setFree y = true) : behindInMarks op y = false := by
  cases y <;> first | rfl | exact Bool.noConfusion h
theorem last_of {o1 o2 : CmpOp} {y z : Expr} (h : setFree z = true) : lastMarks [o1, o2] [y, z] = false := by
  show behindInMarks o2 z = false
  exact mark_of h
/-- two operands, the answer a bool -/
theorem two_okB {f : PyData → PyData → Option Bool} {fa fb : Sl → MH → Re RV} {K : PySem.W.Frag} {s : L2.St} {H : Hp} {Q : VK}
    (h : tE K XR W (fun σ m => (fa σ m).bind fun v h1 => (fb σ h1).bind fun w h2 => snap2 v w h2 fun x y => liftO ((f x y).map fun b => RV.v (.bool b)) h2) s H Q) :
    tOp (rD K fun x y => (f x y).map PyData.bool) (tE K XR W fa) (tE K XR W fb) s H Q := by
  refine two_ok (f := fun x y => (f x y).map PyData.bool) ?_
  have e : (fun (σ : Sl) (m : MH) => (fa σ m).bind fun v h1 => (fb σ h1).bind fun w h2 => snap2 v w h2 fun x y => liftO (((f x y).map PyData.bool).map RV.v) h2) =
      (fun σ m => (fa σ m).bind fun v h1 => (fb σ h1).bind fun w h2 => snap2 v w h2 fun x y => liftO ((f x y).map fun b => RV.v (.bool b)) h2) := by
    funext σ m
    congr 1
    funext v h1
    congr 1
    funext w h2
    congr 1
    funext x y
    rw [Option.map_map]
    rfl
  rw [e]
  exact h
theorem s_cmp {op : Cop} {a b : E} {x y : Expr} {p : Pos} (g : G C cf cs XR k X) (hy : setFree y = true) (ha : PE X x (tE X.K XR W (ev cf cs a))) (hb : PE X y (tE X.K XR W (ev cf cs b))) :
    PE X (.Compare x [copX op] [y] p) (tE X.K XR W (ev cf cs (.cmp op a b))) := pe_imp (pe_cmpR (o_cop op g.calm g.hu g.hu1) ha hb (mark_of hy)) fun s H Q h => two_okB h
theorem s_isN {a : E} {x : Expr} {p p2 : Pos} {j : Nat} (ha : PE X x (tE X.K XR W (ev cf cs a))) : PE X (.Compare x [.Is] [.Constant .none j p2] p) (tE X.K XR W (ev cf cs (.isN a))) :=
  pe_imp (pe_cmp (pc_isN ha)) fun s H Q h => by
    obtain ⟨I, A, σ, m, st, sr, o⟩ := h
    refine ⟨I, A, σ, m, st, sr, Out.bind o fun v m1 I1 A1 H1 y1 e1 st1 r1 o1 => ?_⟩
    refine o1 I1 A1 H1 _ Ext.refl st1 ?_
    cases v with
    | v d => cases d <;> cases r1 <;> exact Dp.bl _
    | r i =>
      obtain ⟨a, _, rfl⟩ := r1
      exact Dp.bl _
theorem s_notN {a : E} {x : Expr} {p p2 : Pos} {j : Nat} (ha : PE X x (tE X.K XR W (ev cf cs a))) : PE X (.Compare x [.IsNot] [.Constant .none j p2] p) (tE X.K XR W (ev cf cs (.notN a))) :=
  pe_imp (pe_cmp (pc_notN ha)) fun s H Q h => by
    obtain ⟨I, A, σ, m, st, sr, o⟩ := h
    refine ⟨I, A, σ, m, st, sr, Out.bind o fun v m1 I1 A1 H1 y1 e1 st1 r1 o1 => ?_⟩
    refine o1 I1 A1 H1 _ Ext.refl st1 ?_
    cases v with
    | v d => cases d <;> cases r1 <;> exact Dp.bl _
    | r i =>
      obtain ⟨a, _, rfl⟩ := r1
      exact Dp.bl _
/-- data that is kept comes -/
theorem kept_ok {K : PySem.W.Frag} {s : L2.St} {I H : Hp} {A : Ad} {v : RV} {m : MH} {y : V} {α β : Type} {rel : Hp → Ad → MH → Hp → α → β → Prop} {f : PyData → MH → Re α} {Q : β → Hp → Prop} (st : ST K I A m H) (r : RR K I A v y)
    (o : Out K XR rel W s I A ((froze v m).bind f) Q) : ∃ x m' I', Ext I A I' A ∧ ST K I' A m' H ∧ Dp K I' y x ∧ Out K XR rel W s I' A (f x m') Q := by
  cases q : froze v m with
  | stuck => rw [q] at o; exact o.elim
  | exn c xs m' =>
    rcases froze_ok2 (m := m) (v := v) with ⟨x, m2, e⟩ | e
    · rw [q] at e; cases e
    · rw [q] at e; cases e
  | ok x m' =>
    rw [q] at o
    obtain ⟨I', e, st', d⟩ := froze_ok st r q
    exact ⟨x, m', I', e, st', d, Out.mono e o⟩
theorem cmp2_key {o1 o2 : Cop} {a b c : E} {s : L2.St} {H : Hp} {Q : VK} (h : tE X.K XR W (ev cf cs (.cmp2 o1 o2 a b c)) s H Q) :
    tChain (rD X.K fun x y => (cop o1 x y).map PyData.bool) (rD X.K fun x y => (cop o2 x y).map PyData.bool) (tE X.K XR W (ev cf cs a)) (tE X.K XR W (ev cf cs b)) (tE X.K XR W (ev cf cs c)) s H Q := by
  obtain ⟨I, A, σ, m, st, sr, o⟩ := h
  have o : Out X.K XR (relE X.K) W s I A ((datP (ev cf cs a σ m)).bind fun x h1 => (datP (ev cf cs b σ h1)).bind fun y h2 => match cop o1 x y with
    | some true => (datP (ev cf cs c σ h2)).bind fun z h3 => liftO ((cop o2 y z).map fun b => RV.v (.bool b)) h3
    | some false => .ok (.v (.bool false)) h2
    | none => .stuck) Q := o
  rw [datP_bind] at o
  refine ⟨I, A, σ, m, st, sr, Out.bind o fun v m1 I1 A1 H1 y1 e1 st1 r1 ob => ?_⟩
  obtain ⟨d, m2, I2, e2, st2, d1, ob⟩ := kept_ok st1 r1 ob
  rw [datP_bind] at ob
  refine ⟨I2, A1, σ, m2, st2, sr.mono (e1.trans e2), Out.bind ob fun w m3 I3 A3 H3 y3 e3 st3 r3 oc => ?_⟩
  obtain ⟨e, m4, I4, e4, st4, d3, oc⟩ := kept_ok st3 r3 oc
  have d1' : Dp X.K I4 y1 d := dp_sub (e3.trans e4).sub d1
  cases hq : cop o1 d e with
  | none => rw [hq] at oc; exact oc.elim
  | some bb =>
    rw [hq] at oc
    refine ⟨I4, A3, m4, d, e, .bool bb, st4, .inl d1', .inl d3, by show Option.map PyData.bool (cop o1 d e) = _; rw [hq]; rfl, fun I5 H5 y5 e5 st5 d5 => ?_⟩
    cases d5
    cases bb with
    | false =>
      refine ⟨false, rfl, ?_⟩
      rw [if_neg Bool.false_ne_true]
      exact oc I5 A3 H5 _ e5 st5 (.bl false)
    | true =>
      refine ⟨true, rfl, ?_⟩
      rw [if_pos rfl]
      have oc' : Out X.K XR (relE X.K) W s I4 A3 ((datP (ev cf cs c σ m4)).bind fun z h3 => liftO ((cop o2 e z).map fun b => RV.v (.bool b)) h3) Q := oc
      rw [datP_bind] at oc'
      refine ⟨I5, A3, σ, m4, st5, sr.mono ((e1.trans e2).trans ((e3.trans e4).trans e5)), Out.bind (Out.mono e5 oc') fun u m6 I6 A6 H6 y6 e6 st6 r6 od => ?_⟩
      obtain ⟨f, m7, I7, e7, st7, d7, od⟩ := kept_ok st6 r6 od
      cases hq2 : cop o2 e f with
      | none => rw [hq2] at od; exact od.elim
      | some b2 =>
        rw [hq2] at od
        exact ⟨I7, A6, m7, e, f, .bool b2, st7, .inl (dp_sub (e5.trans (e6.trans e7)).sub d3), .inl d7, by show Option.map PyData.bool (cop o2 e f) = _; rw [hq2]; rfl, fun I8 H8 y8 e8 st8 d8 => od I8 A6 H8 y8 e8 st8 d8⟩
theorem s_cmp2 {o1 o2 : Cop} {a b c : E} {x y z : Expr} {p : Pos} (g : G C cf cs XR k X) (hy : setFree y = true) (hz : setFree z = true) (ha : PE X x (tE X.K XR W (ev cf cs a))) (hb : PE X y (tE X.K XR W (ev cf cs b))) (hc : PE X z (tE X.K XR W (ev cf cs c))) :
    PE X (.Compare x [copX o1, copX o2] [y, z] p) (tE X.K XR W (ev cf cs (.cmp2 o1 o2 a b c))) :=
  pe_imp (pe_chain (o_cop o1 g.calm g.hu g.hu1) (o_cop o2 g.calm g.hu g.hu1) ha hb hc (last_of hz)) fun s H Q h => cmp2_key h
end
end Sd

/-! Sd: not, and, or, if else, tuples, arguments, calls. -/
namespace Sd
open L2 PySem PySem.Spec PyProof.Rows
section
variable {X : Cx} {C : CK} {cf : CF} {cs : List PyData} {XR : XT} {k : Nat} {W : WX}
/-- an evaluation's truth -/
def evB (cf : CF) (cs : List PyData) (e : E) (σ : Sl) (m : MH) : Re Bool := (dat (ev cf cs e σ m)).bind fun x h1 => match tru x with
  | some b => .ok b h1
  | none => .stuck
/-- a snapshot that is asked -/
theorem snap_bind {α β : Type} {K : PySem.W.Frag} {s : L2.St} {I H : Hp} {A : Ad} {v : RV} {m : MH} {y : V} {rel : Hp → Ad → MH → Hp → α → β → Prop} {f : PyData → MH → Re α} {Q : β → Hp → Prop} (st : ST K I A m H) (r : RR K I A v y)
    (o : Out K XR rel W s I A ((liftO (snap v m) m).bind f) Q) : ∃ x, Now K I H y x ∧ Out K XR rel W s I A (f x m) Q := by
  cases q : snap v m with
  | none => rw [q] at o; exact o.elim
  | some x => rw [q] at o; exact ⟨x, now_snap st r q, o⟩
theorem s_neg {a : E} {x : Expr} {p : Pos} (ha : PE X x (tE X.K XR W (ev cf cs a))) : PE X (.UnaryOp .USub x p) (tE X.K XR W (ev cf cs (.neg a))) :=
  pe_imp (pe_un un_neg ha) fun s H Q ⟨I, A, σ, m, st, sr, o⟩ => by
    have o : Out X.K XR (relE X.K) W s I A ((dat (ev cf cs a σ m)).bind fun x h1 => match x with
      | .int i => .ok (.v (.int (-i))) h1
      | _ => .stuck) Q := o
    rw [dat_bind] at o
    refine ⟨I, A, σ, m, st, sr, Out.bind o fun v m1 I1 A1 H1 y1 e1 st1 r1 o1 => ?_⟩
    obtain ⟨d, n, o1⟩ := snap_bind st1 r1 o1
    cases d <;> first | exact o1.elim | skip
    rw [n.intv]
    exact ⟨_, rfl, o1 I1 A1 H1 _ Ext.refl st1 (.int _)⟩
theorem s_nt {a : E} {x : Expr} {p : Pos} (ha : PE X x (tE X.K XR W (ev cf cs a))) : PE X (.UnaryOp .Not x p) (tE X.K XR W (ev cf cs (.nt a))) :=
  pe_imp (pe_notT ha) fun s H Q ⟨I, A, σ, m, st, sr, o⟩ => by
    have o : Out X.K XR (relE X.K) W s I A ((dat (ev cf cs a σ m)).bind fun x h1 => match tru x with
      | some b => .ok (.v (.bool (!b))) h1
      | none => .stuck) Q := o
    rw [dat_bind] at o
    refine ⟨I, A, σ, m, st, sr, Out.bind o fun v m1 I1 A1 H1 y1 e1 st1 r1 o1 => ?_⟩
    obtain ⟨d, n, o1⟩ := snap_bind st1 r1 o1
    cases q : tru d with
    | none => rw [q] at o1; exact o1.elim
    | some b =>
      rw [q] at o1
      exact ⟨b, tru_v st1.sub n q, o1 I1 A1 H1 _ Ext.refl st1 (.bl _)⟩
/-! ### tests -/
theorem s_tT {a : E} {x : Expr} (ha : PE X x (tE X.K XR W (ev cf cs a))) (he : ∀ whole, isTrue x X.env whole = (do let v ← whole; standAt x.pos; holding [v] (truthy v))) : PT X x (tT X.K XR W (evB cf cs a)) :=
  pt_imp (pt_truth ha he) fun s H Q ⟨I, A, σ, m, st, sr, o⟩ => by
    unfold evB at o
    rw [dat_bind] at o
    refine ⟨I, A, σ, m, st, sr, Out.bind o fun v m1 I1 A1 H1 y1 e1 st1 r1 o1 => ?_⟩
    obtain ⟨d, n, o1⟩ := snap_bind st1 r1 o1
    cases q : tru d with
    | none => rw [q] at o1; exact o1.elim
    | some b =>
      rw [q] at o1
      exact ⟨b, tru_v st1.sub n q, o1 I1 A1 H1 _ Ext.refl st1 rfl⟩
theorem s_ntT {a : E} {x : Expr} {p : Pos} (ha : PT X x (tT X.K XR W (evB cf cs a))) : PT X (.UnaryOp .Not x p) (tT X.K XR W (evB cf cs (.nt a))) :=
  pt_imp (pt_not ha) fun s H Q ⟨I, A, σ, m, st, sr, o⟩ => by
    have e : evB cf cs (.nt a) σ m = (evB cf cs a σ m).bind fun b h1 => .ok (!b) h1 := by
      show (dat ((dat (ev cf cs a σ m)).bind fun x h1 => match tru x with
        | some b => .ok (.v (.bool (!b))) h1
        | none => .stuck)).bind _ = (Re.bind ((dat (ev cf cs a σ m)).bind _) _)
      cases dat (ev cf cs a σ m) with
      | stuck => rfl
      | exn c xs h => rfl
      | ok d h =>
        show (dat (match tru d with
          | some b => Re.ok (RV.v (.bool (!b))) h
          | none => .stuck)).bind _ = Re.bind (match tru d with
          | some b => Re.ok b h
          | none => .stuck) _
        cases tru d with
        | none => rfl
        | some b => rfl
    rw [e] at o
    refine ⟨I, A, σ, m, st, sr, Out.bind o fun b m1 I1 A1 H1 b1 e1 st1 r1 o1 => ?_⟩
    subst r1
    exact o1 I1 A1 H1 _ Ext.refl st1 rfl
theorem evB_cmp {op : Cop} {a b : E} {σ : Sl} {m : MH} : evB cf cs (.cmp op a b) σ m = (ev cf cs a σ m).bind fun v h1 => (ev cf cs b σ h1).bind fun w h2 => snap2 v w h2 fun x y => liftO (cop op x y) h2 := by
  show (dat ((ev cf cs a σ m).bind fun v h1 => (ev cf cs b σ h1).bind fun w h2 => snap2 v w h2 fun x y => liftO ((cop op x y).map fun b => RV.v (.bool b)) h2)).bind _ = _
  cases ev cf cs a σ m with
  | stuck => rfl
  | exn c xs h => rfl
  | ok v h1 =>
    show (dat ((ev cf cs b σ h1).bind fun w h2 => snap2 v w h2 fun x y => liftO ((cop op x y).map fun b => RV.v (.bool b)) h2)).bind _ = (ev cf cs b σ h1).bind fun w h2 => snap2 v w h2 fun x y => liftO (cop op x y) h2
    cases ev cf cs b σ h1 with
    | stuck => rfl
    | exn c xs h => rfl
    | ok w h2 =>
      show (dat (snap2 v w h2 fun x y => liftO ((cop op x y).map fun b => RV.v (.bool b)) h2)).bind _ = snap2 v w h2 fun x y => liftO (cop op x y) h2
      unfold snap2
      cases snap v h2 with
      | none => rfl
      | some x =>
        cases snap w h2 with
        | none => rfl
        | some y =>
          show (dat (liftO ((cop op x y).map fun b => RV.v (.bool b)) h2)).bind _ = liftO (cop op x y) h2
          cases cop op x y with
          | none => rfl
          | some b => rfl
/-- a value that is surely a bool, as a test, by its form's own rule -/
theorem tB_of {te : TE} {a : E} {s : L2.St} {H : Hp} {Q : Bool → Hp → Prop} (hq : ∀ Q', tE X.K XR W (ev cf cs a) s H Q' → te s H Q') (hb : ∀ σ m, (∃ b h, ev cf cs a σ m = .ok (.v (.bool b)) h) ∨ (∃ c xs h, ev cf cs a σ m = .exn c xs h) ∨ ev cf cs a σ m = .stuck)
    (h : tT X.K XR W (evB cf cs a) s H Q) : te s H fun x H1 => ∃ c, x = .bl c ∧ Q c H1 := by
  obtain ⟨I, A, σ, m, st, sr, o⟩ := h
  refine hq _ ⟨I, A, σ, m, st, sr, ?_⟩
  unfold evB at o
  rcases hb σ m with ⟨b, h', e⟩ | ⟨c, xs, h', e⟩ | e
  · rw [e] at o ⊢
    intro I' A' H' y x st' r
    cases r
    exact ⟨b, rfl, o I' A' H' b x st' rfl⟩
  · rw [e] at o ⊢
    exact o
  · rw [e] at o
    exact o.elim
/-- the answer is a bool, if there is one -/
def BoolR (r : Re RV) : Prop := (∃ b h, r = .ok (.v (.bool b)) h) ∨ (∃ c xs h, r = .exn c xs h) ∨ r = .stuck
theorem boolR_bind {α : Type} {x : Re α} {f : α → MH → Re RV} (h : ∀ a m, BoolR (f a m)) : BoolR (x.bind f) := by
  cases x with
  | ok a m => exact h a m
  | exn c xs m => exact .inr (.inl ⟨c, xs, m, rfl⟩)
  | stuck => exact .inr (.inr rfl)
theorem boolR_ok {b : Bool} {m : MH} : BoolR (.ok (.v (.bool b)) m) := .inl ⟨b, m, rfl⟩
theorem boolR_lift {o : Option Bool} {m : MH} : BoolR (liftO (o.map fun b => RV.v (.bool b)) m) := by
  cases o with
  | none => exact .inr (.inr rfl)
  | some b => exact boolR_ok
theorem boolR_snap2 {v w : RV} {m : MH} {f : PyData → PyData → Re RV} (h : ∀ x y, BoolR (f x y)) : BoolR (snap2 v w m f) := by
  unfold snap2
  split
  · split
    · exact h _ _
    · exact .inr (.inr rfl)
  · exact .inr (.inr rfl)
theorem boolR_cmp {op : Cop} {a b : E} {σ : Sl} {m : MH} : BoolR (ev cf cs (.cmp op a b) σ m) :=
  boolR_bind (f := fun v h1 => (ev cf cs b σ h1).bind fun w h2 => snap2 v w h2 fun x y => liftO ((cop op x y).map fun b => RV.v (.bool b)) h2) fun _ _ => boolR_bind fun _ _ => boolR_snap2 fun _ _ => boolR_lift
theorem boolR_cmp2 {o1 o2 : Cop} {a b c : E} {σ : Sl} {m : MH} : BoolR (ev cf cs (.cmp2 o1 o2 a b c) σ m) := by
  refine boolR_bind (x := datP (ev cf cs a σ m)) fun x h1 => boolR_bind (x := datP (ev cf cs b σ h1)) fun y h2 => ?_
  split
  · exact boolR_bind fun _ _ => boolR_lift
  · exact boolR_ok
  · exact .inr (.inr rfl)
theorem boolR_isN {a : E} {σ : Sl} {m : MH} : BoolR (ev cf cs (.isN a) σ m) := boolR_bind (x := ev cf cs a σ m) fun _ _ => boolR_ok
theorem boolR_notN {a : E} {σ : Sl} {m : MH} : BoolR (ev cf cs (.notN a) σ m) := boolR_bind (x := ev cf cs a σ m) fun _ _ => boolR_ok
theorem s_cmpT {op : Cop} {a b : E} {x y : Expr} {p : Pos} (g : G C cf cs XR k X) (hy : setFree y = true) (ha : PE X x (tE X.K XR W (ev cf cs a))) (hb : PE X y (tE X.K XR W (ev cf cs b))) :
    PT X (.Compare x [copX op] [y] p) (tT X.K XR W (evB cf cs (.cmp op a b))) := pt_imp (pt_cmpR (o_cop op g.calm g.hu g.hu1) ha hb (mark_of hy)) fun s H Q h =>
  tB_of (te := tOp _ _ _) (fun Q' q => two_okB q) (fun _ _ => boolR_cmp) h
theorem s_isNT {a : E} {x : Expr} {p p2 : Pos} {j : Nat} (ha : PE X x (tE X.K XR W (ev cf cs a))) : PT X (.Compare x [.Is] [.Constant .none j p2] p) (tT X.K XR W (evB cf cs (.isN a))) :=
  pt_imp (pt_cmp (pc_isN ha)) fun s H Q h => tB_of (te := tIsN _) (fun Q' q => by
    obtain ⟨I, A, σ, m, st, sr, o⟩ := q
    refine ⟨I, A, σ, m, st, sr, Out.bind o fun v m1 I1 A1 H1 y1 e1 st1 r1 o1 => ?_⟩
    refine o1 I1 A1 H1 _ Ext.refl st1 ?_
    cases v with
    | v d => cases d <;> cases r1 <;> exact Dp.bl _
    | r i =>
      obtain ⟨a, _, rfl⟩ := r1
      exact Dp.bl _) (fun _ _ => boolR_isN) h
theorem s_notNT {a : E} {x : Expr} {p p2 : Pos} {j : Nat} (ha : PE X x (tE X.K XR W (ev cf cs a))) : PT X (.Compare x [.IsNot] [.Constant .none j p2] p) (tT X.K XR W (evB cf cs (.notN a))) :=
  pt_imp (pt_cmp (pc_notN ha)) fun s H Q h => tB_of (te := tNotN _) (fun Q' q => by
    obtain ⟨I, A, σ, m, st, sr, o⟩ := q
    refine ⟨I, A, σ, m, st, sr, Out.bind o fun v m1 I1 A1 H1 y1 e1 st1 r1 o1 => ?_⟩
    refine o1 I1 A1 H1 _ Ext.refl st1 ?_
    cases v with
    | v d => cases d <;> cases r1 <;> exact Dp.bl _
    | r i =>
      obtain ⟨a, _, rfl⟩ := r1
      exact Dp.bl _) (fun _ _ => boolR_notN) h

/-! ### and, or -/
theorem s_and1 {e : E} {x : Expr} {p : Pos} (h : PE X x (tE X.K XR W (ev cf cs e))) : PE X (.BoolOp .And [x] p) (tE X.K XR W (evAnd cf cs (.cons e .nil))) := pe_one h
theorem s_or1 {e : E} {x : Expr} {p : Pos} (h : PE X x (tE X.K XR W (ev cf cs e))) : PE X (.BoolOp .Or [x] p) (tE X.K XR W (evOr cf cs (.cons e .nil))) := pe_one h
theorem s_and {e e2 : E} {es : Es} {x y : Expr} {xs : List Expr} {p : Pos} (h : PE X x (tE X.K XR W (ev cf cs e))) (hr : PE X (.BoolOp .And (y :: xs) p) (tE X.K XR W (evAnd cf cs (.cons e2 es)))) :
    PE X (.BoolOp .And (x :: y :: xs) p) (tE X.K XR W (evAnd cf cs (.cons e (.cons e2 es)))) := pe_imp (pe_andT h hr) fun s H Q ⟨I, A, σ, m, st, sr, o⟩ => by
  have o : Out X.K XR (relE X.K) W s I A ((datP (ev cf cs e σ m)).bind fun x h1 => match tru x with
    | some true => evAnd cf cs (.cons e2 es) σ h1
    | some false => .ok (.v x) h1
    | none => .stuck) Q := o
  rw [datP_bind] at o
  refine ⟨I, A, σ, m, st, sr, Out.bind o fun v m1 I1 A1 H1 y1 e1 st1 r1 o1 => ?_⟩
  obtain ⟨d, m2, I2, e2', st2, d2, o1⟩ := kept_ok st1 r1 o1
  cases q : tru d with
  | none => rw [q] at o1; exact o1.elim
  | some b =>
    rw [q] at o1
    refine ⟨b, tru_v st2.sub (.inl d2) q, ?_⟩
    cases b with
    | true =>
      rw [if_pos rfl]
      exact ⟨I2, A1, σ, m2, st2, sr.mono (e1.trans e2'), o1⟩
    | false =>
      rw [if_neg Bool.false_ne_true]
      exact o1 I2 A1 H1 _ Ext.refl st2 d2
theorem s_or {e e2 : E} {es : Es} {x y : Expr} {xs : List Expr} {p : Pos} (h : PE X x (tE X.K XR W (ev cf cs e))) (hr : PE X (.BoolOp .Or (y :: xs) p) (tE X.K XR W (evOr cf cs (.cons e2 es)))) :
    PE X (.BoolOp .Or (x :: y :: xs) p) (tE X.K XR W (evOr cf cs (.cons e (.cons e2 es)))) := pe_imp (pe_orT h hr) fun s H Q ⟨I, A, σ, m, st, sr, o⟩ => by
  have o : Out X.K XR (relE X.K) W s I A ((datP (ev cf cs e σ m)).bind fun x h1 => match tru x with
    | some true => .ok (.v x) h1
    | some false => evOr cf cs (.cons e2 es) σ h1
    | none => .stuck) Q := o
  rw [datP_bind] at o
  refine ⟨I, A, σ, m, st, sr, Out.bind o fun v m1 I1 A1 H1 y1 e1 st1 r1 o1 => ?_⟩
  obtain ⟨d, m2, I2, e2', st2, d2, o1⟩ := kept_ok st1 r1 o1
  cases q : tru d with
  | none => rw [q] at o1; exact o1.elim
  | some b =>
    rw [q] at o1
    refine ⟨b, tru_v st2.sub (.inl d2) q, ?_⟩
    cases b with
    | true =>
      rw [if_pos rfl]
      exact o1 I2 A1 H1 _ Ext.refl st2 d2
    | false =>
      rw [if_neg Bool.false_ne_true]
      exact ⟨I2, A1, σ, m2, st2, sr.mono (e1.trans e2'), o1⟩
/-- the truth of a kept datum -/
theorem froze_tru {v : RV} {m m' : MH} {x : PyData} (e : froze v m = .ok x m') : snap v m = some x := by
  cases v with
  | v z => cases e; rfl
  | r i =>
    have e' : (match m[i]? with
      | some (.lst xs) => Re.ok (PyData.list xs) (m.set i (.fz xs))
      | some (.fz xs) => .ok (.list xs) m
      | none => .stuck) = .ok x m' := e
    show (match m[i]? with
      | some (.lst xs) => some (PyData.list xs)
      | some (.fz xs) => some (.list xs)
      | none => none) = some x
    cases q : m[i]? with
    | none => rw [q] at e'; cases e'
    | some o =>
      rw [q] at e'
      cases o <;> cases e' <;> rfl
def trR (r : Re RV) : Re Bool := (dat r).bind fun x h1 => match tru x with
  | some b => .ok b h1
  | none => .stuck
/-- the same as a test, but for lists that are kept -/
def trP (r : Re RV) : Re Bool := (datP r).bind fun x h1 => match tru x with
  | some b => .ok b h1
  | none => .stuck
/-- what evAnd gives, as a test: not told of one list alone -/
theorem s_andT1 {e : E} {x : Expr} {p : Pos} (h : PT X x (tT X.K XR W (evB cf cs e))) : PW X (.BoolOp .And [x] p) (tT X.K XR W (fun σ m => trR (evAnd cf cs (.cons e .nil) σ m))) := pw_and1 h
theorem s_orT1 {e : E} {x : Expr} {p : Pos} (h : PT X x (tT X.K XR W (evB cf cs e))) : PW X (.BoolOp .Or [x] p) (tT X.K XR W (fun σ m => trR (evOr cf cs (.cons e .nil) σ m))) := pw_or1 h
/-- where a datum is kept a test of it may leave it as it is -/
theorem s_andT {e e2 : E} {es : Es} {x y : Expr} {xs : List Expr} {p : Pos} (h : PT X x (tT X.K XR W (fun σ m => trP (ev cf cs e σ m)))) (hr : PW X (.BoolOp .And (y :: xs) p) (tT X.K XR W (fun σ m => trR (evAnd cf cs (.cons e2 es) σ m)))) :
    PW X (.BoolOp .And (x :: y :: xs) p) (tT X.K XR W (fun σ m => trR (evAnd cf cs (.cons e (.cons e2 es)) σ m))) := pw_imp (pw_and h hr) fun s H Q ⟨I, A, σ, m, st, sr, o⟩ => by
  have eq : trR (evAnd cf cs (.cons e (.cons e2 es)) σ m) = (trP (ev cf cs e σ m)).bind fun b h1 => if b = true then trR (evAnd cf cs (.cons e2 es) σ h1) else .ok false h1 := by
    show trR ((datP (ev cf cs e σ m)).bind fun x h1 => match tru x with
      | some true => evAnd cf cs (.cons e2 es) σ h1
      | some false => .ok (.v x) h1
      | none => .stuck) = (Re.bind ((datP (ev cf cs e σ m)).bind _) _)
    cases datP (ev cf cs e σ m) with
    | stuck => rfl
    | exn c xs h => rfl
    | ok d h1 =>
      show trR (match tru d with
        | some true => evAnd cf cs (.cons e2 es) σ h1
        | some false => .ok (.v d) h1
        | none => .stuck) = Re.bind (match tru d with
        | some b => Re.ok b h1
        | none => .stuck) _
      cases q : tru d with
      | none => rfl
      | some b =>
        cases b with
        | true => rfl
        | false =>
          show (match tru d with
            | some b => Re.ok b h1
            | none => .stuck) = _
          rw [q]
          rfl
  dsimp only at o
  rw [eq] at o
  refine ⟨I, A, σ, m, st, sr, Out.bind o fun b m1 I1 A1 H1 b1 e1 st1 r1 o1 => ?_⟩
  have r1' : b = b1 := r1
  subst r1'
  cases b with
  | true =>
    rw [if_pos rfl] at o1 ⊢
    exact ⟨I1, A1, σ, m1, st1, sr.mono e1, o1⟩
  | false =>
    rw [if_neg Bool.false_ne_true] at o1 ⊢
    exact o1 I1 A1 H1 _ Ext.refl st1 rfl
theorem s_orT {e e2 : E} {es : Es} {x y : Expr} {xs : List Expr} {p : Pos} (h : PT X x (tT X.K XR W (fun σ m => trP (ev cf cs e σ m)))) (hr : PW X (.BoolOp .Or (y :: xs) p) (tT X.K XR W (fun σ m => trR (evOr cf cs (.cons e2 es) σ m)))) :
    PW X (.BoolOp .Or (x :: y :: xs) p) (tT X.K XR W (fun σ m => trR (evOr cf cs (.cons e (.cons e2 es)) σ m))) := pw_imp (pw_or h hr) fun s H Q ⟨I, A, σ, m, st, sr, o⟩ => by
  have eq : trR (evOr cf cs (.cons e (.cons e2 es)) σ m) = (trP (ev cf cs e σ m)).bind fun b h1 => if b = true then .ok true h1 else trR (evOr cf cs (.cons e2 es) σ h1) := by
    show trR ((datP (ev cf cs e σ m)).bind fun x h1 => match tru x with
      | some true => .ok (.v x) h1
      | some false => evOr cf cs (.cons e2 es) σ h1
      | none => .stuck) = (Re.bind ((datP (ev cf cs e σ m)).bind _) _)
    cases datP (ev cf cs e σ m) with
    | stuck => rfl
    | exn c xs h => rfl
    | ok d h1 =>
      show trR (match tru d with
        | some true => .ok (.v d) h1
        | some false => evOr cf cs (.cons e2 es) σ h1
        | none => .stuck) = Re.bind (match tru d with
        | some b => Re.ok b h1
        | none => .stuck) _
      cases q : tru d with
      | none => rfl
      | some b =>
        cases b with
        | false => rfl
        | true =>
          show (match tru d with
            | some b => Re.ok b h1
            | none => .stuck) = _
          rw [q]
          rfl
  dsimp only at o
  rw [eq] at o
  refine ⟨I, A, σ, m, st, sr, Out.bind o fun b m1 I1 A1 H1 b1 e1 st1 r1 o1 => ?_⟩
  have r1' : b = b1 := r1
  subst r1'
  cases b with
  | false =>
    rw [if_neg Bool.false_ne_true] at o1 ⊢
    exact ⟨I1, A1, σ, m1, st1, sr.mono e1, o1⟩
  | true =>
    rw [if_pos rfl] at o1 ⊢
    exact o1 I1 A1 H1 _ Ext.refl st1 rfl
/-- a test of a kept datum -/
theorem tT_keep {f : Sl → MH → Re RV} {x : Expr} (h : PT X x (tT X.K XR W (fun σ m => trR (f σ m)))) : PT X x (tT X.K XR W (fun σ m => trP (f σ m))) :=
  pt_imp h fun s H Q ⟨I, A, σ, m, st, sr, o⟩ => by
    refine ⟨I, A, σ, m, st, sr, ?_⟩
    unfold trP at o
    dsimp only at o
    rw [datP_bind] at o
    unfold trR
    dsimp only
    rw [dat_bind]
    cases q : f σ m with
    | stuck => rw [q] at o; exact o
    | exn c xs h => rw [q] at o; exact o
    | ok v m1 =>
      rw [q] at o
      have o : Out X.K XR relB W s I A ((froze v m1).bind fun x h1 => match tru x with
        | some b => .ok b h1
        | none => .stuck) Q := o
      show Out X.K XR relB W s I A ((liftO (snap v m1) m1).bind fun x h1 => match tru x with
        | some b => .ok b h1
        | none => .stuck) Q
      cases q2 : froze v m1 with
      | stuck => rw [q2] at o; exact o.elim
      | exn c xs m' =>
        rcases froze_ok2 (m := m1) (v := v) with ⟨x, m2, e⟩ | e
        · rw [q2] at e; cases e
        · rw [q2] at e; cases e
      | ok d m2 =>
        rw [q2] at o
        rw [froze_tru q2]
        have o9 : Out X.K XR relB W s I A (match tru d with
          | some b => Re.ok b m2
          | none => .stuck) Q := o
        clear o
        show Out X.K XR relB W s I A (match tru d with
          | some b => Re.ok b m1
          | none => .stuck) Q
        cases q3 : tru d with
        | none => rw [q3] at o9; exact o9
        | some b =>
          rw [q3] at o9
          intro I' A' H' b' x st' r
          cases v with
          | v z => cases q2; exact o9 I' A' H' b' x st' r
          | r i =>
            have e' : (match m1[i]? with
              | some (.lst xs) => Re.ok (PyData.list xs) (m1.set i (.fz xs))
              | some (.fz xs) => .ok (.list xs) m1
              | none => .stuck) = .ok d m2 := q2
            cases q4 : m1[i]? with
            | none => rw [q4] at e'; cases e'
            | some ob =>
              rw [q4] at e'
              cases ob with
              | fz xs =>
                have e2 : m1 = m2 := by cases e'; rfl
                rw [← e2] at o9
                exact o9 I' A' H' b' x st' r
              | lst xs =>
                have e2 : m1.set i (.fz xs) = m2 := by cases e'; rfl
                rw [← e2] at o9
                have hi : i < m1.length := (List.getElem?_eq_some_iff.mp q4).1
                have hA : i < A'.l.length := by rw [st'.len]; exact hi
                obtain ⟨vs, st2, hI, _⟩ := st'.freeze q4 (List.getElem?_eq_getElem hA)
                exact o9 _ A' H' b' (x.trans (ext_upd hI)) st2 r
end
end Sd

/-! Sd: if else, tuples, arguments, calls. -/
namespace Sd
open L2 PySem PySem.Spec PyProof.Rows
section
variable {X : Cx} {C : CK} {cf : CF} {cs : List PyData} {XR : XT} {k : Nat} {W : WX}
theorem ev_ite {c a b : E} {σ : Sl} {m : MH} : ev cf cs (.ite c a b) σ m = (evB cf cs c σ m).bind fun t h1 => if t = true then ev cf cs a σ h1 else ev cf cs b σ h1 := by
  show (dat (ev cf cs c σ m)).bind _ = Re.bind (Re.bind (dat (ev cf cs c σ m)) _) _
  cases dat (ev cf cs c σ m) with
  | stuck => rfl
  | exn c xs h => rfl
  | ok d h1 =>
    show (match tru d with
      | some true => ev cf cs a σ h1
      | some false => ev cf cs b σ h1
      | none => .stuck) = Re.bind (match tru d with
      | some b => Re.ok b h1
      | none => .stuck) _
    cases tru d with
    | none => rfl
    | some t => cases t <;> rfl
theorem s_ite {c a b : E} {x y z : Expr} {p : Pos} (hc : PT X x (tT X.K XR W (evB cf cs c))) (ha : PE X y (tE X.K XR W (ev cf cs a))) (hb : PE X z (tE X.K XR W (ev cf cs b))) :
    PE X (.IfExp x y z p) (tE X.K XR W (ev cf cs (.ite c a b))) := pe_imp (pe_ifExp hc ha hb) fun s H Q ⟨I, A, σ, m, st, sr, o⟩ => by
  rw [ev_ite] at o
  refine ⟨I, A, σ, m, st, sr, Out.bind o fun t m1 I1 A1 H1 b1 e1 st1 r1 o1 => ?_⟩
  have r1' : t = b1 := r1
  subst r1'
  cases t with
  | true =>
    rw [if_pos rfl] at o1 ⊢
    exact ⟨I1, A1, σ, m1, st1, sr.mono e1, o1⟩
  | false =>
    rw [if_neg Bool.false_ne_true] at o1 ⊢
    exact ⟨I1, A1, σ, m1, st1, sr.mono e1, o1⟩
theorem pt_ifExp {c a b : Expr} {tA tx ty : TT} {pos : Pos} (hc : PT X c tA) (ha : PT X a tx) (hb : PT X b ty) : PT X (.IfExp c a b pos) (fun σ H Q => tA σ H fun t H1 => if t = true then tx σ H1 Q else ty σ H1 Q) := by
  refine ⟨fun pins s σ H Q I h => ?_⟩
  show wpAny _ _ ((isTrue c X.env (eval c X.env)) >>= fun t => if t = true then isTrue a X.env (eval a X.env) else isTrue b X.env (eval b X.env)) _ _ s
  refine wpAny_bind (thn (hc.run pins s σ H _ I h) fun t s1 ⟨H1, I1, q1⟩ => ?_)
  cases t with
  | true => exact ha.run pins s1 σ H1 Q I1 q1
  | false => exact hb.run pins s1 σ H1 Q I1 q1
theorem s_iteT {c a b : E} {x y z : Expr} {p : Pos} (hc : PT X x (tT X.K XR W (evB cf cs c))) (ha : PT X y (tT X.K XR W (evB cf cs a))) (hb : PT X z (tT X.K XR W (evB cf cs b))) :
    PT X (.IfExp x y z p) (tT X.K XR W (evB cf cs (.ite c a b))) := pt_imp (pt_ifExp hc ha hb) fun s H Q ⟨I, A, σ, m, st, sr, o⟩ => by
  have e : evB cf cs (.ite c a b) σ m = (evB cf cs c σ m).bind fun t h1 => if t = true then evB cf cs a σ h1 else evB cf cs b σ h1 := by
    show (dat (ev cf cs (.ite c a b) σ m)).bind _ = _
    rw [ev_ite]
    cases evB cf cs c σ m with
    | stuck => rfl
    | exn c xs h => rfl
    | ok t h1 => cases t <;> rfl
  rw [e] at o
  refine ⟨I, A, σ, m, st, sr, Out.bind o fun t m1 I1 A1 H1 b1 e1 st1 r1 o1 => ?_⟩
  have r1' : t = b1 := r1
  subst r1'
  cases t with
  | true =>
    rw [if_pos rfl] at o1 ⊢
    exact ⟨I1, A1, σ, m1, st1, sr.mono e1, o1⟩
  | false =>
    rw [if_neg Bool.false_ne_true] at o1 ⊢
    exact ⟨I1, A1, σ, m1, st1, sr.mono e1, o1⟩

/-! ### argument lists -/
theorem star_of {x : Expr} {xs : List Expr} {env : PySem.Env} (h : notStar x = true) : starEach (x :: xs) env = (false, eval x env) :: starEach xs env := by
  cases x <;> first | rfl | exact Bool.noConfusion h
theorem plain_of {pos : Pos} {env : PySem.Env} : ∀ {xs : List Expr}, xs.all notStar = true → (backTo pos (starEach xs env)).any (·.1) = false
  | [], _ => rfl
  | x :: xs, h => by
    simp only [List.all_cons, Bool.and_eq_true] at h
    rw [star_of h.1]
    show (false || (backTo pos (starEach xs env)).any (·.1)) = false
    rw [plain_of h.2]
    rfl
theorem s_evs0 : PA X [] (tA X.K XR W (evs cf cs .nil)) := pa_imp pa_nil fun s H Q ⟨I, A, σ, m, st, sr, o⟩ => o I A H [] Ext.refl st .nil
theorem s_evs {e : E} {es : Es} {x : Expr} {xs : List Expr} (hs : notStar x = true) (h : PE X x (tE X.K XR W (ev cf cs e))) (hr : PA X xs (tA X.K XR W (evs cf cs es))) : PA X (x :: xs) (tA X.K XR W (evs cf cs (.cons e es))) :=
  pa_imp (pa_cons h hr (star_of hs)) fun s H Q ⟨I, A, σ, m, st, sr, o⟩ => by
    have o : Out X.K XR (relEs X.K) W s I A ((ev cf cs e σ m).bind fun x h1 => (evs cf cs es σ h1).bind fun xs h2 => .ok (x :: xs) h2) Q := o
    refine ⟨I, A, σ, m, st, sr, Out.bind o fun v m1 I1 A1 H1 y1 e1 st1 r1 o1 => ?_⟩
    refine ⟨I1, A1, σ, m1, st1, sr.mono e1, Out.bind o1 fun vs m2 I2 A2 H2 ys e2 st2 r2 o2 => ?_⟩
    exact o2 I2 A2 H2 _ Ext.refl st2 (.cons (RR.mono e2 r1) r2)
theorem s_evP0 : PA X [] (tP X.K XR W (evP cf cs .nil)) := pa_imp pa_nil fun s H Q ⟨I, A, σ, m, st, sr, o⟩ => o I A H [] Ext.refl st .nil
theorem s_evP {e : E} {es : Es} {x : Expr} {xs : List Expr} (hs : notStar x = true) (h : PE X x (tE X.K XR W (ev cf cs e))) (hr : PA X xs (tP X.K XR W (evP cf cs es))) : PA X (x :: xs) (tP X.K XR W (evP cf cs (.cons e es))) :=
  pa_imp (pa_cons h hr (star_of hs)) fun s H Q ⟨I, A, σ, m, st, sr, o⟩ => by
    have o : Out X.K XR (relP X.K) W s I A ((datP (ev cf cs e σ m)).bind fun x h1 => (evP cf cs es σ h1).bind fun xs h2 => .ok (x :: xs) h2) Q := o
    rw [datP_bind] at o
    refine ⟨I, A, σ, m, st, sr, Out.bind o fun v m1 I1 A1 H1 y1 e1 st1 r1 o1 => ?_⟩
    obtain ⟨d, m2, I2, e2, st2, d2, o1⟩ := kept_ok st1 r1 o1
    refine ⟨I2, A1, σ, m2, st2, sr.mono (e1.trans e2), Out.bind o1 fun vs m3 I3 A3 H3 ys e3 st3 r3 o3 => ?_⟩
    exact o3 I3 A3 H3 _ Ext.refl st3 (.cons (dp_sub e3.sub d2) r3)
theorem s_tup {es : Es} {xs : List Expr} {p : Pos} {j : Nat} (h : PA X xs (tP X.K XR W (evP cf cs es))) : PE X (.Tuple xs j p) (tE X.K XR W (ev cf cs (.tup es))) :=
  pe_imp (pe_tup h) fun s H Q ⟨I, A, σ, m, st, sr, o⟩ => by
    have o : Out X.K XR (relE X.K) W s I A ((evP cf cs es σ m).bind fun xs h1 => if sized xs then .ok (.v (.tuple xs)) h1 else .stuck) Q := o
    refine ⟨I, A, σ, m, st, sr, Out.bind o fun ds m1 I1 A1 H1 ys e1 st1 r1 o1 => ?_⟩
    cases q : sized ds with
    | false => rw [q] at o1; exact o1.elim
    | true =>
      rw [q] at o1
      refine ⟨by have := sized_le q; have l := DpAll.len r1; have := line_ge; omega, new_tup st1 r1 fun I2 H2 y2 e2 st2 d2 => o1 I2 A1 H2 y2 e2 st2 d2⟩

/-! ### calls of defs -/
theorem Out.atS {α β : Type} {K : PySem.W.Frag} {rel : Hp → Ad → MH → Hp → α → β → Prop} {s : L2.St} {I : Hp} {A : Ad} {Q : β → Hp → Prop} : ∀ {r : Re α}, Out K XR rel W s I A r Q → Out K XR rel (fun c d _ H' => WE W s c d H') [] I A r Q
  | .ok _ _, h => h
  | .exn _ _ _, h => h
  | .stuck, h => h
theorem pe_callS0 {CX : CXT} {f : Addr} {fd : FuncData} {ps : List Str} {sp : Sp} {E : L2.St → XK} {x : Str} {p pos : Pos} (F : FnOk X.prog X.w X.K X.mg X.base CX k f fd ps sp) (hr : Room k X.A) (hg : Gl X x) (hm : X.mg x = some (.ref f)) (hk : PySem.W.keepIn X.K (.ref f) = true) (hb : Binds X.K fd ps [])
    (hx : ∀ σ, PassesAt CX X σ (E σ)) (hdb : (x == ("__debug__" : Str)) = false) : PE X (.Call (.Name x p) [] [] pos) (tCallS sp E tNil) := by
  refine ⟨fun pins s σ H Q I h => ?_⟩
  refine wpAny_Call_Name_kw (ld_glob I hg hm ?_ hdb)
  exact PySem.W.callWith_K0 I.kIn hk (run_fnS (us := []) F hr hb (hx σ) I .nil h)
theorem call_key {g : Nat} {es : Es} {s : L2.St} {H : Hp} {Q : VK} (h : tE X.K XR W (ev cf cs (.call g es)) s H Q) : tCallS (spOf X.K XR cf g) (WE W) (tA X.K XR W (evs cf cs es)) s H Q := by
  obtain ⟨I, A, σ, m, st, sr, o⟩ := h
  have o : Out X.K XR (relE X.K) W s I A ((evs cf cs es σ m).bind fun vs h1 => cf g vs h1) Q := o
  refine ⟨I, A, σ, m, st, sr, Out.bind o fun vs m1 I1 A1 H1 ys e1 st1 r1 o1 => ?_⟩
  exact ⟨I1, A1, m1, vs, st1, r1, o1.atS⟩
theorem nil_key {s : L2.St} {H : Hp} {Q : List V → Hp → Prop} (h : tA X.K XR W (evs cf cs .nil) s H Q) : tNil s H Q := by
  obtain ⟨I, A, σ, m, st, sr, o⟩ := h
  exact o I A H [] Ext.refl st .nil
theorem s_call0 {g : Nat} {id : Str} {p pos : Pos} (G0 : G C cf cs XR k X) (tk : Takes X W) (hf : C.FN[g]? = some id) (hg : Gl X id) (hp : plainN id = true) :
    PE X (.Call (.Name id p) [] [] pos) (tE X.K XR W (ev cf cs (.call g .nil))) := by
  obtain ⟨f, fd, ps, hm, hk, hb, F, _⟩ := G0.fns g id hf
  exact pe_imp (pe_callS0 F G0.room hg hm hk hb (fun σ => passAt tk σ) (plainN_of hp).1) fun s H Q q => nil_key (call_key q)
theorem s_call {g : Nat} {es : Es} {x : Expr} {xs : List Expr} {id : Str} {p pos : Pos} (G0 : G C cf cs XR k X) (tk : Takes X W) (hf : C.FN[g]? = some id) (hg : Gl X id) (hp : plainN id = true) (hs : (x :: xs).all notStar = true) (h : PA X (x :: xs) (tA X.K XR W (evs cf cs es))) :
    PE X (.Call (.Name id p) (x :: xs) [] pos) (tE X.K XR W (ev cf cs (.call g es))) := by
  obtain ⟨f, fd, ps, hm, hk, hb, F, _⟩ := G0.fns g id hf
  simp only [List.all_cons, Bool.and_eq_true] at hs
  exact pe_imp (pe_callS F G0.room hg hm hk hb (fun σ => passAt tk σ) h (plainN_of hp).1 (star_of hs.1) (plain_of hs.2)) fun s H Q q => call_key q

/-! ### built-ins -/
inductive NowAll (K : PySem.W.Frag) (I H : Hp) : List V → List PyData → Prop
  | nil : NowAll K I H [] []
  | cons {y : V} {x : PyData} {ys : List V} {xs : List PyData} : Now K I H y x → NowAll K I H ys xs → NowAll K I H (y :: ys) (x :: xs)
theorem nowAll_snaps {K : PySem.W.Frag} {I H : Hp} {A : Ad} {m : MH} (st : ST K I A m H) : ∀ {vs : List RV} {ys : List V} {xs : List PyData}, RRs K I A vs ys → snaps vs m = some xs → NowAll K I H ys xs
  | _, _, _, .nil, e => by cases e; exact .nil
  | v :: vs, y :: ys, xs, .cons r rs, e => by
    have e' : (match snap v m with
      | some x => match snaps vs m with
        | some xs => some (x :: xs)
        | none => none
      | none => none) = some xs := e
    cases q : snap v m with
    | none => rw [q] at e'; cases e'
    | some x =>
      rw [q] at e'
      cases q2 : snaps vs m with
      | none => rw [q2] at e'; cases e'
      | some zs =>
        rw [q2] at e'
        cases e'
        exact .cons (now_snap st r q) (nowAll_snaps st rs q2)
def rBI (K : PySem.W.Frag) (f : List PyData → Option PyData) : List V → Hp → VK → Prop := fun ys H Q => ∃ I A m ds z, ST K I A m H ∧ NowAll K I H ys ds ∧ f ds = some z ∧ ∀ I' H' y', Ext I A I' A → ST K I' A m H' → Dp K I' y' z → Q y' H'
theorem ints_v {K : PySem.W.Frag} {I : Hp} : ∀ {vs : List V} {xs : List PyData} {l : List Int}, DpAll K I vs xs → intsD xs = some l → vs = l.map V.int
  | _, _, _, .nil, e => by cases e; rfl
  | v :: vs, x :: xs, l, .cons d ds, e => by
    cases x <;> simp only [intsD, reduceCtorEq] at e
    cases q : intsD xs with
    | none => rw [q] at e; cases e
    | some r =>
      rw [q] at e
      cases e
      cases d
      rw [ints_v ds q]
      rfl
theorem bools_v {K : PySem.W.Frag} {I : Hp} : ∀ {vs : List V} {xs : List PyData} {l : List Bool}, DpAll K I vs xs → boolsD xs = some l → vs = l.map V.bl
  | _, _, _, .nil, e => by cases e; rfl
  | v :: vs, x :: xs, l, .cons d ds, e => by
    cases x <;> simp only [boolsD, reduceCtorEq] at e
    cases q : boolsD xs with
    | none => rw [q] at e; cases e
    | some r =>
      rw [q] at e
      cases e
      cases d
      rw [bools_v ds q]
      rfl
theorem minI_le : ∀ (l : List Int) (m : Int), minI m l ≤ m ∧ (∀ y ∈ l, minI m l ≤ y) ∧ (minI m l = m ∨ minI m l ∈ l)
  | [], m => ⟨Int.le_refl _, (fun y h => by cases h), .inl rfl⟩
  | x :: r, m => by
    obtain ⟨h1, h2, h3⟩ := minI_le r (if x < m then x else m)
    have e : minI m (x :: r) = minI (if x < m then x else m) r := rfl
    rw [e]
    refine ⟨?_, fun y hy => ?_, ?_⟩
    · split at h1 <;> rename_i c <;> split <;> omega
    · rcases List.mem_cons.mp hy with rfl | hy
      · split at h1 <;> rename_i c <;> split <;> omega
      · exact h2 y hy
    · rcases h3 with h3 | h3
      · split at h3
        · rename_i c
          right
          rw [if_pos c, h3]
          exact List.mem_cons_self ..
        · rename_i c
          left
          rw [if_neg c]
          exact h3
      · exact .inr (List.mem_cons_of_mem _ h3)
theorem maxI_le : ∀ (l : List Int) (m : Int), m ≤ maxI m l ∧ (∀ y ∈ l, y ≤ maxI m l) ∧ (maxI m l = m ∨ maxI m l ∈ l)
  | [], m => ⟨Int.le_refl _, (fun y h => by cases h), .inl rfl⟩
  | x :: r, m => by
    obtain ⟨h1, h2, h3⟩ := maxI_le r (if m < x then x else m)
    have e : maxI m (x :: r) = maxI (if m < x then x else m) r := rfl
    rw [e]
    refine ⟨?_, fun y hy => ?_, ?_⟩
    · split at h1 <;> rename_i c <;> split <;> omega
    · rcases List.mem_cons.mp hy with rfl | hy
      · split at h1 <;> rename_i c <;> split <;> omega
      · exact h2 y hy
    · rcases h3 with h3 | h3
      · split at h3
        · rename_i c
          right
          rw [if_pos c, h3]
          exact List.mem_cons_self ..
        · rename_i c
          left
          rw [if_neg c]
          exact h3
      · exact .inr (List.mem_cons_of_mem _ h3)
end
end Sd

/-! Sd: built-in functions and types by values. -/
namespace Sd
open L2 PySem PySem.Spec PyProof.Rows
theorem minI_fold : ∀ (l : List Int) (m : Int), minI m l = l.foldl min m
  | [], _ => rfl
  | x :: r, m => by
    show minI (if x < m then x else m) r = r.foldl min (min m x)
    rw [minI_fold r]
    congr 1
    rw [Int.min_def]
    split <;> split <;> omega
theorem maxI_fold : ∀ (l : List Int) (m : Int), maxI m l = l.foldl max m
  | [], _ => rfl
  | x :: r, m => by
    show maxI (if m < x then x else m) r = r.foldl max (max m x)
    rw [maxI_fold r]
    congr 1
    rw [Int.max_def]
    split <;> split <;> omega
theorem seqOf_now {K : PySem.W.Frag} {I H : Hp} {y : V} {x : PyData} {xs : List PyData} (s : Sub I H) (n : Now K I H y x) (e : seqOf x = some xs) : ∃ p vs, y = .ref p ∧ DpAll K I vs xs ∧ ((x = .list xs ∧ SqL K H p vs) ∨ (x = .tuple xs ∧ SqT K H p vs)) := by
  cases x <;> simp only [seqOf, reduceCtorEq] at e
  · cases e
    obtain ⟨p, vs, rfl, h1, h2⟩ := n.lstv s
    exact ⟨p, vs, rfl, h2, .inl ⟨rfl, h1⟩⟩
  · cases e
    obtain ⟨p, vs, rfl, h1, h2⟩ := n.tupv
    exact ⟨p, vs, rfl, h2, .inr ⟨rfl, sqT_sub s h1⟩⟩
theorem alike_ints (l : List Int) : PySem.W.AlikeAll (l.map PyData.int) := by
  refine ⟨fun x hx y hy => ?_, fun x hx e => ?_⟩
  · obtain ⟨i, _, rfl⟩ := List.mem_map.mp hx
    obtain ⟨j, _, rfl⟩ := List.mem_map.mp hy
    rfl
  · obtain ⟨i, _, rfl⟩ := List.mem_map.mp hx
    cases e
theorem depth_ints : ∀ (l : List Int), PyData.depthAll (l.map PyData.int) ≤ 1
  | [] => Nat.zero_le _
  | i :: l => by
    have := depth_ints l
    simp only [List.map_cons, PyData.depthAll, PyData.depth]
    omega
theorem intsD_map : ∀ {xs : List PyData} {l : List Int}, intsD xs = some l → xs = l.map PyData.int
  | [], l, e => by cases e; rfl
  | x :: xs, l, e => by
    cases x <;> simp only [intsD, reduceCtorEq] at e
    cases q : intsD xs with
    | none => rw [q] at e; cases e
    | some r =>
      rw [q] at e
      cases e
      rw [intsD_map q]
      rfl
section
variable {X : Cx} {XR : XT} {W : WX}
/-- where a built-in stands -/
def valB : B1 → Value
  | .len => .builtin "len" | .all => .builtin "all" | .any => .builtin "any" | .sum => .builtin "sum" | .min => .builtin "min" | .max => .builtin "max" | .tuple => .type "tuple" | .abs => .builtin "abs" | .int => .type "int" | .lcm => .builtin "math.lcm"
theorem nowAll1 {K : PySem.W.Frag} {I H : Hp} {ys : List V} {x : PyData} (n : NowAll K I H ys [x]) : ∃ y, ys = [y] ∧ Now K I H y x := by
  cases n with
  | cons h t => cases t; exact ⟨_, rfl, h⟩
theorem nowAll2 {K : PySem.W.Frag} {I H : Hp} {ys : List V} {x z : PyData} (n : NowAll K I H ys [x, z]) : ∃ y w, ys = [y, w] ∧ Now K I H y x ∧ Now K I H w z := by
  cases n with
  | cons h t =>
    cases t with
    | cons h2 t2 => cases t2; exact ⟨_, _, rfl, h, h2⟩
theorem dps_ints {K : PySem.W.Frag} {I : Hp} : ∀ l : List Int, DpAll K I (l.map V.int) (l.map PyData.int)
  | [] => .nil
  | i :: l => .cons (.int i) (dps_ints l)
/-- min, max of ints in a tuple -/
theorem min_tup_ok {pins : List (Addr × Obj)} {s : Shared} {σ : L2.St} {H : Hp} {p : Addr} {a : Int} {l : List Int} {Q : VK} {E : Value → Shared → Prop} (hc : X.calm = true) (hu : X.A.units + 64 < cLine) (I : Inv X pins σ H s) (h : SqT X.K H p ((a :: l).map V.int)) (q : Q (.int (minI a l)) H) :
    wpAny (model X.prog X.w) X.A (call (.builtin "min") [.ref p]) (EP X pins σ Q) E s := by
  obtain ⟨its, r, ⟨o, ho, hcl, n, hd⟩, hz⟩ := I.tuple h
  obtain ⟨as, hr⟩ := L2.Dp.readsAll I ((a :: l).map PyData.int) _ its (dps_ints (K := X.K) (I := H) (a :: l)).up r
  have dl := depth_ints (a :: l)
  refine PySem.W.min_tuple_data (vs := its.toArray) (x := .int a) (xs := l.map PyData.int) (I.ok.hd hc) ⟨o, ho, hcl, n, hd⟩ (by simpa using hr) (alike_ints (a :: l)) (by simp only [List.map_cons] at dl; omega) fun i v h' tk bs hv rd hk => ?_
  rw [PySem.W.minD_ints, ← minI_fold] at rd
  obtain ⟨t, rfl⟩ : ∃ t, v = Value.int (minI a l) t := by cases rd; exact ⟨_, rfl⟩
  exact ⟨.int (minI a l), H, I.kept (t' := tk) hk, ⟨t, rfl⟩, q⟩
theorem max_tup_ok {pins : List (Addr × Obj)} {s : Shared} {σ : L2.St} {H : Hp} {p : Addr} {a : Int} {l : List Int} {Q : VK} {E : Value → Shared → Prop} (hc : X.calm = true) (hu : X.A.units + 64 < cLine) (I : Inv X pins σ H s) (h : SqT X.K H p ((a :: l).map V.int)) (q : Q (.int (maxI a l)) H) :
    wpAny (model X.prog X.w) X.A (call (.builtin "max") [.ref p]) (EP X pins σ Q) E s := by
  obtain ⟨its, r, ⟨o, ho, hcl, n, hd⟩, hz⟩ := I.tuple h
  obtain ⟨as, hr⟩ := L2.Dp.readsAll I ((a :: l).map PyData.int) _ its (dps_ints (K := X.K) (I := H) (a :: l)).up r
  have dl := depth_ints (a :: l)
  refine PySem.W.max_tuple_data (vs := its.toArray) (x := .int a) (xs := l.map PyData.int) (I.ok.hd hc) ⟨o, ho, hcl, n, hd⟩ (by simpa using hr) (alike_ints (a :: l)) (by simp only [List.map_cons] at dl; omega) fun i v h' tk bs hv rd hk => ?_
  rw [PySem.W.maxD_ints, ← maxI_fold] at rd
  obtain ⟨t, rfl⟩ : ∃ t, v = Value.int (maxI a l) t := by cases rd; exact ⟨_, rfl⟩
  exact ⟨.int (maxI a l), H, I.kept (t' := tk) hk, ⟨t, rfl⟩, q⟩
theorem lcm_fits {a b : Int} (ha : 0 < a) (ha2 : a < two30) (hb : 0 < b) (hb2 : b < two30) : a.natAbs < 2 ^ 64 ∧ b.natAbs < 2 ^ 64 ∧ ((((Nat.lcm 1 a.natAbs).lcm b.natAbs : Nat) : Int)).natAbs.log2 < bitsLine ∧ (Nat.lcm 1 a.natAbs).lcm b.natAbs = Nat.lcm a.toNat b.toNat := by
  unfold two30 at ha2 hb2
  have e1 : a.natAbs = a.toNat := by omega
  have e2 : b.natAbs = b.toNat := by omega
  have e3 : Nat.lcm 1 a.natAbs = a.toNat := by rw [Nat.lcm_one_left, e1]
  refine ⟨by omega, by omega, ?_, by rw [e3, e2]⟩
  rw [e3, e2, Int.natAbs_natCast]
  have h1 : Nat.lcm a.toNat b.toNat ≤ a.toNat * b.toNat := by
    unfold Nat.lcm
    exact Nat.div_le_self _ _
  have h2 : a.toNat * b.toNat < 2 ^ 64 := by
    have x1 : a.toNat < 2 ^ 30 := by omega
    have x2 : b.toNat < 2 ^ 30 := by omega
    have := Nat.mul_lt_mul'' x1 x2
    omega
  have h3 : (Nat.lcm a.toNat b.toNat).log2 ≤ 63 := PySem.W.mg_log (by omega)
  unfold bitsLine
  omega

theorem o_b1 (f : B1) (hc : X.calm = true) (hu : X.A.units + 64 < cLine) : CallR X (valB f) (rBI X.K (b1 f)) := by
  intro pins s σ H xs us Q Iv r h
  obtain ⟨I, A, m, ds, z, st, n, hf, q⟩ := h
  cases f with
  | len =>
    match ds, hf with
    | [.list ws], hf =>
      have hf' : (if sized ws then some (PyData.int ws.length) else none) = some z := hf
      split at hf'
      · cases hf'
        obtain ⟨y, rfl, n1⟩ := nowAll1 n
        obtain ⟨p, vs, rfl, h1, h2⟩ := n1.lstv st.sub
        refine call_len_seq pins s σ H _ us Q Iv r ⟨p, vs, rfl, .inl h1, ?_⟩
        rw [DpAll.len h2]
        exact rD_int st q
      · cases hf'
    | [.tuple ws], hf =>
      have hf' : (if sized ws then some (PyData.int ws.length) else none) = some z := hf
      split at hf'
      · cases hf'
        obtain ⟨y, rfl, n1⟩ := nowAll1 n
        obtain ⟨p, vs, rfl, h1, h2⟩ := n1.tupv
        refine call_len_seq pins s σ H _ us Q Iv r ⟨p, vs, rfl, .inr (sqT_sub st.sub h1), ?_⟩
        rw [DpAll.len h2]
        exact rD_int st q
      · cases hf'
  | all =>
    match ds, hf with
    | [.list ws], hf =>
      have hf' : (match boolsD ws with | some l => some (PyData.bool (l.all id)) | none => none) = some z := hf
      cases q1 : boolsD ws with
      | none => rw [q1] at hf'; cases hf'
      | some l =>
        rw [q1] at hf'
        cases hf'
        obtain ⟨y, rfl, n1⟩ := nowAll1 n
        obtain ⟨p, vs, rfl, h1, h2⟩ := n1.lstv st.sub
        rw [bools_v h2 q1] at h1
        exact cr_all hc pins s σ H _ us Q Iv r ⟨p, l, rfl, h1, rD_bl st q⟩
  | any =>
    match ds, hf with
    | [.list ws], hf =>
      have hf' : (match boolsD ws with | some l => some (PyData.bool (l.any id)) | none => none) = some z := hf
      cases q1 : boolsD ws with
      | none => rw [q1] at hf'; cases hf'
      | some l =>
        rw [q1] at hf'
        cases hf'
        obtain ⟨y, rfl, n1⟩ := nowAll1 n
        obtain ⟨p, vs, rfl, h1, h2⟩ := n1.lstv st.sub
        rw [bools_v h2 q1] at h1
        exact cr_any hc pins s σ H _ us Q Iv r ⟨p, l, rfl, h1, rD_bl st q⟩
  | sum =>
    match ds, hf with
    | [.list ws], hf =>
      have hf' : (match intsD ws with | some l => some (PyData.int l.sum) | none => none) = some z := hf
      cases q1 : intsD ws with
      | none => rw [q1] at hf'; cases hf'
      | some l =>
        rw [q1] at hf'
        cases hf'
        obtain ⟨y, rfl, n1⟩ := nowAll1 n
        obtain ⟨p, vs, rfl, h1, h2⟩ := n1.lstv st.sub
        rw [ints_v h2 q1] at h1
        exact cr_sum hc pins s σ H _ us Q Iv r ⟨p, l, rfl, h1, rD_int st q⟩
  | min =>
    match ds, hf with
    | [x], hf =>
      have hf' : (match seqOf x with
        | some xs => match intsD xs with
          | some (a :: l) => if sized xs then some (PyData.int (minI a l)) else none
          | _ => none
        | none => none) = some z := hf
      cases q0 : seqOf x with
      | none => rw [q0] at hf'; cases hf'
      | some ws =>
        rw [q0] at hf'
        dsimp only at hf'
        cases q1 : intsD ws with
        | none => rw [q1] at hf'; cases hf'
        | some l =>
          rw [q1] at hf'
          cases l with
          | nil => cases hf'
          | cons a l =>
            have hf' : (if sized ws then some (PyData.int (minI a l)) else none) = some z := hf'
            split at hf'
            · cases hf'
              obtain ⟨y, rfl, n1⟩ := nowAll1 n
              obtain ⟨p, vs, rfl, h2, h1⟩ := seqOf_now st.sub n1 q0
              have e := ints_v h2 q1
              subst e
              rcases h1 with ⟨_, h1⟩ | ⟨_, h1⟩
              · obtain ⟨b1, b2, b3⟩ := minI_le l a
                exact cr_min hc pins s σ H _ us Q Iv r ⟨p, a :: l, rfl, h1, Nat.succ_pos _, fun k hk hl => by
                  have e1 := hl a (List.mem_cons_self ..)
                  have e2 : k = minI a l := by
                    rcases List.mem_cons.mp hk with rfl | hk
                    · rcases b3 with b3 | b3
                      · exact b3.symm
                      · have := hl _ (List.mem_cons_of_mem _ b3); omega
                    · have x1 := b2 k hk
                      rcases b3 with b3 | b3
                      · omega
                      · have := hl _ (List.mem_cons_of_mem _ b3); omega
                  rw [e2]
                  exact rD_int st q⟩
              · obtain ⟨u, rfl, ru⟩ := vals1 r
                cases ru
                exact min_tup_ok hc hu Iv h1 (rD_int st q)
            · cases hf'
    | [.int a, .int b], hf =>
      cases hf
      obtain ⟨y, w, rfl, n1, n2⟩ := nowAll2 n
      rw [n1.intv, n2.intv] at r
      exact call_min2 hc pins s σ H _ us Q Iv r ⟨a, b, rfl, rD_int st q⟩
  | max =>
    match ds, hf with
    | [x], hf =>
      have hf' : (match seqOf x with
        | some xs => match intsD xs with
          | some (a :: l) => if sized xs then some (PyData.int (maxI a l)) else none
          | _ => none
        | none => none) = some z := hf
      cases q0 : seqOf x with
      | none => rw [q0] at hf'; cases hf'
      | some ws =>
        rw [q0] at hf'
        dsimp only at hf'
        cases q1 : intsD ws with
        | none => rw [q1] at hf'; cases hf'
        | some l =>
          rw [q1] at hf'
          cases l with
          | nil => cases hf'
          | cons a l =>
            have hf' : (if sized ws then some (PyData.int (maxI a l)) else none) = some z := hf'
            split at hf'
            · cases hf'
              obtain ⟨y, rfl, n1⟩ := nowAll1 n
              obtain ⟨p, vs, rfl, h2, h1⟩ := seqOf_now st.sub n1 q0
              have e := ints_v h2 q1
              subst e
              rcases h1 with ⟨_, h1⟩ | ⟨_, h1⟩
              · obtain ⟨b1, b2, b3⟩ := maxI_le l a
                exact cr_max hc pins s σ H _ us Q Iv r ⟨p, a :: l, rfl, h1, Nat.succ_pos _, fun k hk hl => by
                  have e1 := hl a (List.mem_cons_self ..)
                  have e2 : k = maxI a l := by
                    rcases List.mem_cons.mp hk with rfl | hk
                    · rcases b3 with b3 | b3
                      · exact b3.symm
                      · have := hl _ (List.mem_cons_of_mem _ b3); omega
                    · have x1 := b2 k hk
                      rcases b3 with b3 | b3
                      · omega
                      · have := hl _ (List.mem_cons_of_mem _ b3); omega
                  rw [e2]
                  exact rD_int st q⟩
              · obtain ⟨u, rfl, ru⟩ := vals1 r
                cases ru
                exact max_tup_ok hc hu Iv h1 (rD_int st q)
            · cases hf'
    | [.int a, .int b], hf =>
      cases hf
      obtain ⟨y, w, rfl, n1, n2⟩ := nowAll2 n
      rw [n1.intv, n2.intv] at r
      exact call_max2 hc pins s σ H _ us Q Iv r ⟨a, b, rfl, rD_int st q⟩
  | tuple =>
    match ds, hf with
    | [.list ws], hf =>
      have hf' : (if sized ws then some (PyData.tuple ws) else none) = some z := hf
      split at hf'
      · cases hf'
        obtain ⟨y, rfl, n1⟩ := nowAll1 n
        obtain ⟨p, vs, rfl, h1, h2⟩ := n1.lstv st.sub
        exact call_tuple_of pins s σ H _ us Q Iv r ⟨p, vs, rfl, .inl ⟨h1, new_tup st h2 q⟩⟩
      · cases hf'
    | [.tuple ws], hf =>
      cases hf
      obtain ⟨y, rfl, n1⟩ := nowAll1 n
      obtain ⟨p, vs, rfl, h1, h2⟩ := n1.tupv
      exact call_tuple_of pins s σ H _ us Q Iv r ⟨p, vs, rfl, .inr ⟨sqT_sub st.sub h1, q I H _ Ext.refl st (.tup h1 h2)⟩⟩
  | abs =>
    match ds, hf with
    | [.int a], hf =>
      cases hf
      obtain ⟨y, rfl, n1⟩ := nowAll1 n
      rw [n1.intv] at r
      exact call_abs pins s σ H _ us Q Iv r ⟨a, rfl, rD_int st q⟩
  | int =>
    match ds, hf with
    | [.int a], hf =>
      cases hf
      obtain ⟨y, rfl, n1⟩ := nowAll1 n
      rw [n1.intv] at r
      exact call_int1 pins s σ H _ us Q Iv r (.inl ⟨a, rfl, rD_int st q⟩)
    | [.bool a], hf =>
      cases hf
      obtain ⟨y, rfl, n1⟩ := nowAll1 n
      rw [n1.blv] at r
      exact call_int1 pins s σ H _ us Q Iv r (.inr ⟨a, rfl, rD_int st q⟩)
  | lcm =>
    match ds, hf with
    | [.int a, .int b], hf =>
      have hf' : (if 0 < a && a < two30 && 0 < b && b < two30 then some (PyData.int (Nat.lcm a.toNat b.toNat)) else none) = some z := hf
      split at hf'
      · rename_i hs
        cases hf'
        simp only [Bool.and_eq_true, decide_eq_true_eq] at hs
        obtain ⟨y, w, rfl, n1, n2⟩ := nowAll2 n
        rw [n1.intv, n2.intv] at r
        obtain ⟨u1, u2, rfl, ⟨t1, rfl⟩, ⟨t2, rfl⟩⟩ := vals2 r
        obtain ⟨f1, f2, f3, f4⟩ := lcm_fits hs.1.1.1 hs.1.1.2 hs.1.2 hs.2
        refine PySem.W.mg_lcm f1 f2 f3 ⟨.int (Nat.lcm a.toNat b.toNat), H, Iv.tok _, ⟨_, by rw [f4]⟩, rD_int st q⟩
      · cases hf'
end
end Sd

/-! Sd: calls of built-ins, isinstance, subscripts, slices. -/
namespace Sd
open L2 PySem PySem.Spec PyProof.Rows
section
variable {X : Cx} {C : CK} {cf : CF} {cs : List PyData} {XR : XT} {k : Nat} {W : WX}
theorem boot_b1 (f : B1) (h : isLcm f = false) : bootBuiltins (b1X f) = some (valB f) := by
  cases f <;> first | exact Bool.noConfusion h | decide +kernel
theorem name_b1 (f : B1) (h : isLcm f = false) : b1X f ∈ builtNames := by
  cases f <;> first | exact Bool.noConfusion h | (unfold builtNames b1X; simp)
theorem bi_key {f : B1} {es : Es} {s : L2.St} {H : Hp} {Q : VK} (h : tE X.K XR W (ev cf cs (.bi f es)) s H Q) : tCB (rBI X.K (b1 f)) (tA X.K XR W (evs cf cs es)) s H Q := by
  obtain ⟨I, A, σ, m, st, sr, o⟩ := h
  have o : Out X.K XR (relE X.K) W s I A ((evs cf cs es σ m).bind fun vs h1 => (liftO (snaps vs h1) h1).bind fun xs h1 => liftO ((b1 f xs).map RV.v) h1) Q := o
  refine ⟨I, A, σ, m, st, sr, Out.bind o fun vs m1 I1 A1 H1 ys e1 st1 r1 o1 => ?_⟩
  cases q : snaps vs m1 with
  | none => rw [q] at o1; exact o1.elim
  | some ds =>
    rw [q] at o1
    have o1 : Out X.K XR (relE X.K) W s I1 A1 (liftO ((b1 f ds).map RV.v) m1) Q := o1
    cases q2 : b1 f ds with
    | none => rw [q2] at o1; exact o1.elim
    | some z =>
      rw [q2] at o1
      exact ⟨I1, A1, m1, ds, z, st1, nowAll_snaps st1 r1 q, q2, fun I' H' y' x st' d => o1 I' A1 H' y' x st' d⟩
theorem pe_callV {v : Value} {r : List V → Hp → VK → Prop} {x : Str} {p pos : Pos} {e : Expr} {es : List Expr} {t : TA} {b : String} (hv : v = .builtin b) (hc : CallR X v r) (hg : Gl X x) (hm : X.mg x = some v) (ha : PA X (e :: es) t) (hdb : (x == ("__debug__" : Str)) = false)
    (he : starEach (e :: es) X.env = (false, eval e X.env) :: starEach es X.env) (hpl : (backTo pos (starEach es X.env)).any (·.1) = false) : PE X (.Call (.Name x p) (e :: es) [] pos) (tCB r t) := by
  subst hv
  refine ⟨fun pins s σ H Q I h => ?_⟩
  refine wpAny_Call_Name_kw (ld_glob I hg hm ?_ hdb)
  exact PyProof.Rows.callWith_builtin1 (thn (ha.run pos pins s σ H _ I h) fun us s1 ⟨vs, H1, I1, r1, q1⟩ => hc pins s1 σ H1 vs us Q I1 r1 q1) he hpl
theorem s_bi {f : B1} {es : Es} {x : Expr} {xs : List Expr} {id : Str} {p pos : Pos} (G0 : G C cf cs XR k X) (hf : b1X f = id) (hg : Gl X id) (hp : plainN id = true) (hl : isLcm f = true → C.lcm = true) (hs : (x :: xs).all notStar = true) (h : PA X (x :: xs) (tA X.K XR W (evs cf cs es))) :
    PE X (.Call (.Name id p) (x :: xs) [] pos) (tE X.K XR W (ev cf cs (.bi f es))) := by
  subst hf
  simp only [List.all_cons, Bool.and_eq_true] at hs
  have e1 := star_of (xs := xs) (env := X.env) hs.1
  have e2 := plain_of (pos := pos) (env := X.env) hs.2
  have hn : b1X f ≠ "__name__" := by have := (plainN_of hp).2.2; exact beq_eq_false_iff_ne.mp this
  have hdb := (plainN_of hp).1
  refine pe_imp (t := tCB (rBI X.K (b1 f)) (tA X.K XR W (evs cf cs es))) ?_ fun s H Q q => bi_key q
  cases hq : isLcm f with
  | true =>
    cases f <;> first | exact Bool.noConfusion hq | skip
    exact pe_callV (b := "math.lcm") rfl (o_b1 .lcm G0.calm G0.hu) hg (G0.lcm (hl rfl)) h hdb e1 e2
  | false =>
    have hm := G0.blt _ (name_b1 f hq)
    have hv := boot_b1 f hq
    have hc := o_b1 (X := X) f G0.calm G0.hu
    cases f <;> first
      | exact pe_callB hc hg hm hv h hn hdb e1 e2
      | exact pe_callTy hc hg hm hv h hn hdb e1 e2
      | exact Bool.noConfusion hq

/-! ### isinstance -/
def tyS : Ty → String
  | .int => "int" | .bool => "bool" | .str => "str" | .list => "list" | .tuple => "tuple"
def tyD : PyData → String
  | .none => "NoneType" | .bool _ => "bool" | .int _ => "int" | .str _ => "str" | .list _ => "list" | .tuple _ => "tuple" | .dict _ => "dict"
theorem tyx_of {K : PySem.W.Frag} {H : Hp} {y : V} {x : PyData} (d : Dp K H y x) : TyX K H y (.type (tyD x)) := by
  cases d with
  | non => exact .base .non
  | bl b => exact .base (.bl b)
  | int i => exact .base (.int i)
  | str z => exact .base (.str z)
  | lst h _ =>
    rcases h with (h | ⟨o, h⟩) | ⟨o, its, n, h, hc, _⟩
    · exact .base (.lst h)
    · exact .base (.frz h)
    · exact .kList h hc
  | tup h _ =>
    rcases h with (h | ⟨o, h⟩) | ⟨o, its, n, h, hc, _⟩
    · exact .base (.tup h)
    · exact .fTuple h
    · exact .kTuple h hc
theorem kit_of2 {K : PySem.W.Frag} (x : PyData) (t : Ty) (hd : ∀ l, x ≠ .dict l) : PySem.W.kitOne K (.type (tyD x)) (.type (tyS t)) = some (isTy x t) := by
  cases x with
  | none => cases t <;> exact kit_ty (a := "NoneType") (by kernel_rfl)
  | bool b => cases t <;> exact kit_ty (a := "bool") (by kernel_rfl)
  | int i => cases t <;> exact kit_ty (a := "int") (by kernel_rfl)
  | str z => cases t <;> exact kit_ty (a := "str") (by kernel_rfl)
  | list z => cases t <;> exact kit_ty (a := "list") (by kernel_rfl)
  | tuple z => cases t <;> exact kit_ty (a := "tuple") (by kernel_rfl)
  | dict l => exact (hd l rfl).elim
theorem dp_nodict {K : PySem.W.Frag} {H : Hp} {y : V} {x : PyData} (d : Dp K H y x) : ∀ l, x ≠ .dict l := by
  intro l e
  subst e
  cases d
theorem boot_ty (t : Ty) : bootBuiltins (tyX t) = some (.type (tyS t)) := by cases t <;> decide +kernel
theorem name_ty (t : Ty) : tyX t ∈ builtNames := by cases t <;> (unfold builtNames tyX; simp)
theorem pe_ty (G0 : G C cf cs XR k X) {t : Ty} {p : Pos} (hg : Gl X (tyX t)) : PE X (.Name (tyX t) p) (tC (.ty (tyS t))) :=
  pe_bltn hg (G0.blt _ (name_ty t)) (boot_ty t) rfl (by cases t <;> decide) (by cases t <;> decide)
theorem boot_isi : bootBuiltins "isinstance" = some (.builtin "isinstance") := by decide +kernel
theorem s_isi {a : E} {t : Ty} {x : Expr} {p p2 pos : Pos} (G0 : G C cf cs XR k X) (hg : Gl X "isinstance") (hg2 : Gl X (tyX t)) (hs : notStar x = true) (h : PE X x (tE X.K XR W (ev cf cs a))) :
    PE X (.Call (.Name "isinstance" p) [x, .Name (tyX t) p2] [] pos) (tE X.K XR W (ev cf cs (.isi a t))) := by
  refine pe_imp (pe_callB call_isi hg (G0.blt _ (by unfold builtNames; simp)) boot_isi (pa_cons h (pa_cons (pe_ty G0 hg2) pa_nil) (star_of hs)) (he := star_of hs)) fun s H Q ⟨I, A, σ, m, st, sr, o⟩ => ?_
  have o : Out X.K XR (relE X.K) W s I A ((dat (ev cf cs a σ m)).bind fun x h1 => .ok (.v (.bool (isTy x t))) h1) Q := o
  rw [dat_bind] at o
  refine ⟨I, A, σ, m, st, sr, Out.bind o fun v m1 I1 A1 H1 y1 e1 st1 r1 o1 => ?_⟩
  obtain ⟨d, n, o1⟩ := snap_bind st1 r1 o1
  have dd := n.dp st1.sub
  exact ⟨y1, .ty (tyS t), .type (tyD d), .type (tyS t), isTy d t, rfl, .ty _, tyx_of dd, kit_of2 d t (dp_nodict dd), o1 I1 A1 H1 _ Ext.refl st1 (.bl _)⟩
theorem s_isi2 {a : E} {t u : Ty} {x : Expr} {j : Nat} {p p2 p3 p4 pos : Pos} (G0 : G C cf cs XR k X) (hg : Gl X "isinstance") (hg2 : Gl X (tyX t)) (hg3 : Gl X (tyX u)) (hs : notStar x = true) (h : PE X x (tE X.K XR W (ev cf cs a))) :
    PE X (.Call (.Name "isinstance" p) [x, .Tuple [.Name (tyX t) p2, .Name (tyX u) p3] j p4] [] pos) (tE X.K XR W (ev cf cs (.isi2 a t u))) := by
  refine pe_imp (pe_callB call_isiT hg (G0.blt _ (by unfold builtNames; simp)) boot_isi (pa_cons h (pa_cons (pe_tup (pa_cons (pe_ty G0 hg2) (pa_cons (pe_ty G0 hg3) pa_nil))) pa_nil) (star_of hs)) (he := star_of hs)) fun s H Q ⟨I, A, σ, m, st, sr, o⟩ => ?_
  have o : Out X.K XR (relE X.K) W s I A ((dat (ev cf cs a σ m)).bind fun x h1 => .ok (.v (.bool (isTy x t || isTy x u))) h1) Q := o
  rw [dat_bind] at o
  refine ⟨I, A, σ, m, st, sr, Out.bind o fun v m1 I1 A1 H1 y1 e1 st1 r1 o1 => ?_⟩
  obtain ⟨d, n, o1⟩ := snap_bind st1 r1 o1
  refine ⟨by show 2 ≤ sizeLine; have := line_ge; omega, fun tp htp => ?_⟩
  obtain ⟨hI, hA⟩ := st1.fresh htp
  have st2 := st1.addI (o := .tup [V.ty (tyS t), V.ty (tyS u)]) hA hI
  have n2 : Now X.K (upd I1 tp (.tup [V.ty (tyS t), V.ty (tyS u)])) (upd H1 tp (.tup [V.ty (tyS t), V.ty (tyS u)])) y1 d := by
    rcases n with n | ⟨q, vs, xs, rfl, rfl, h1, h2⟩
    · exact .inl (dp_sub (sub_upd hI) n)
    · exact .inr ⟨q, vs, xs, rfl, rfl, by rw [upd_ne (ne_of_none h1 htp)]; exact h1, dps_sub (sub_upd hI) h2⟩
  have dd := n2.dp st2.sub
  refine ⟨y1, tp, [V.ty (tyS t), V.ty (tyS u)], .type (tyD d), [.type (tyS t), .type (tyS u)], isTy d t || isTy d u, rfl, upd_same, .cons (.ty _) (.cons (.ty _) .nil), tyx_of dd, ?_, o1 _ A1 _ _ (ext_upd hI) st2 (.bl _)⟩
  refine kitAny_cons (kit_of2 d t (dp_nodict dd)) (fun e => ?_) (fun e => by rw [e]; rfl)
  rw [e]
  refine kitAny_cons (r := isTy d u) (kit_of2 d u (dp_nodict dd)) (fun e => ?_) (fun e => e)
  rw [e]
  rfl

/-! ### subscripts -/
theorem plainIx_of {b : Expr} (h : plainSl b = true) : PlainIx b := by
  intro o i
  cases b <;> first | rfl | exact Bool.noConfusion h
theorem ixN_len {ys : List V} {xs : List PyData} {i : Int} {z : PyData} {K : PySem.W.Frag} {I : Hp} (d : DpAll K I ys xs) (e : atD xs i = some z) : ∃ y, atI ys i = some y ∧ Dp K I y z := by
  have e' : ((L2.ixN xs.length i).bind fun j => xs[j]?) = some z := e
  show ∃ y, ((L2.ixN ys.length i).bind fun j => ys[j]?) = some y ∧ Dp K I y z
  rw [DpAll.len d]
  cases q : L2.ixN xs.length i with
  | none => rw [q] at e'; cases e'
  | some j =>
    rw [q] at e'
    exact DpAll.get d e'
theorem o_ix : IxR X (rD X.K subD) := by
  intro value slice pins s σ H x y v u Q Iv rx ry h hs
  obtain ⟨I, A, m, d, e, z, st, nx, ny, hf, q⟩ := h
  cases d <;> cases e <;> simp only [subD, reduceCtorEq] at hf
  · split at hf
    · rw [ny.intv] at ry
      obtain ⟨p, vs, rfl, h1, h2⟩ := nx.lstv st.sub
      obtain ⟨w, h3, h4⟩ := ixN_len h2 hf
      exact ix_list value slice pins s σ H _ _ v u Q Iv rx ry ⟨p, vs, _, w, rfl, rfl, h1, h3, q I H w Ext.refl st h4⟩ hs
    · cases hf
  · split at hf
    · rw [ny.intv] at ry
      obtain ⟨p, vs, rfl, h1, h2⟩ := nx.tupv
      obtain ⟨w, h3, h4⟩ := ixN_len h2 hf
      exact ix_tup value slice pins s σ H _ _ v u Q Iv rx ry ⟨p, vs, _, w, rfl, rfl, sqT_sub st.sub h1, h3, q I H w Ext.refl st h4⟩ hs
    · cases hf
theorem s_ix {a i : E} {x y : Expr} {p : Pos} (hy : plainSl y = true) (ha : PE X x (tE X.K XR W (ev cf cs a))) (hb : PE X y (tE X.K XR W (ev cf cs i))) :
    PE X (.Subscript x y p) (tE X.K XR W (ev cf cs (.ix a i))) := pe_imp (pe_ix o_ix ha hb (plainIx_of hy)) fun s H Q h => two_ok h
/-- a part of a slice -/
def relO : Hp → Ad → MH → Hp → Option Int → Option Int → Prop := fun _ _ _ _ x y => x = y
theorem s_o0 : PO X none (tG X.K XR relO W (evO cf cs .non)) := ⟨fun pins s σ H Q I h => po_none.run pins s σ H Q I (by
  obtain ⟨I', A, σ', m, st, sr, o⟩ := h
  exact o I' A H none Ext.refl st rfl)⟩
theorem s_o {a : E} {x : Expr} (h : PE X x (tE X.K XR W (ev cf cs a))) : PO X (some x) (tG X.K XR relO W (evO cf cs (.some a))) := ⟨fun pins s σ H Q I q => (po_some h).run pins s σ H Q I (by
  obtain ⟨I', A, σ', m, st, sr, o⟩ := q
  have o : Out X.K XR relO W σ I' A ((dat (ev cf cs a σ' m)).bind fun x h1 => match x with
    | .int i => .ok (some i) h1
    | _ => .stuck) Q := o
  rw [dat_bind] at o
  refine ⟨I', A, σ', m, st, sr, Out.bind o fun v m1 I1 A1 H1 y1 e1 st1 r1 o1 => ?_⟩
  obtain ⟨d, n, o1⟩ := snap_bind st1 r1 o1
  cases d <;> first | exact o1.elim | skip
  exact ⟨_, n.intv, o1 I1 A1 H1 _ Ext.refl st1 rfl⟩)⟩
theorem cut_dps {K : PySem.W.Frag} {I : Hp} {ys : List V} {xs : List PyData} {lo hi : Option Int} (d : DpAll K I ys xs) : DpAll K I (cutV ys lo hi) (cut xs lo hi) := by
  unfold cutV cut
  rw [DpAll.len d]
  exact DpAll.take _ (DpAll.drop _ d)
theorem whole_cut {xs : List PyData} {lo hi : Option Int} (h : HT.sIx xs.length 0 lo = 0 ∧ HT.sIx xs.length xs.length hi = xs.length) : cut xs lo hi = xs := by
  unfold cut
  show (xs.drop (HT.sIx xs.length 0 lo)).take (HT.sIx xs.length xs.length hi - HT.sIx xs.length 0 lo) = xs
  rw [h.1, h.2]
  simp
theorem s_slt {a : E} {lo hi : Eo} {x : Expr} {l u : Option Expr} {p p2 : Pos} (ha : PE X x (tE X.K XR W (ev cf cs a))) (hl : PO X l (tG X.K XR relO W (evO cf cs lo))) (hu : PO X u (tG X.K XR relO W (evO cf cs hi))) :
    PE X (.Subscript x (.Slice l u none p2) p) (tE X.K XR W (ev cf cs (.slt a lo hi))) := pe_imp (pe_slice sl_tupA ha hl hu) fun s H Q ⟨I, A, σ, m, st, sr, o⟩ => by
  have o : Out X.K XR (relE X.K) W s I A ((datP (ev cf cs a σ m)).bind fun x h1 => (evO cf cs lo σ h1).bind fun l h2 => (evO cf cs hi σ h2).bind fun u h3 => match x with
    | .tuple xs => if sized xs then .ok (.v (.tuple (cut xs l u))) h3 else .stuck
    | _ => .stuck) Q := o
  rw [datP_bind] at o
  refine ⟨I, A, σ, m, st, sr, Out.bind o fun v m1 I1 A1 H1 y1 e1 st1 r1 o1 => ?_⟩
  obtain ⟨d, m2, I2, e2, st2, d2, o1⟩ := kept_ok st1 r1 o1
  refine ⟨I2, A1, σ, m2, st2, sr.mono (e1.trans e2), Out.bind o1 fun l m3 I3 A3 H3 l' e3 st3 r3 o3 => ?_⟩
  have r3' : l = l' := r3
  subst r3'
  refine ⟨I3, A3, σ, m3, st3, sr.mono ((e1.trans e2).trans e3), Out.bind o3 fun u m4 I4 A4 H4 u' e4 st4 r4 o4 => ?_⟩
  have r4' : u = u' := r4
  subst r4'
  cases d <;> first | exact o4.elim | skip
  rename_i xs
  have o4 : Out X.K XR (relE X.K) W s I4 A4 (if sized xs then .ok (.v (.tuple (cut xs l u))) m4 else .stuck) Q := o4
  split at o4
  · cases d2 with
    | tup h1 h2 =>
      rename_i p vs
      have s4 := (e3.trans e4).sub
      have h2' := dps_sub s4 h2
      have hl := DpAll.len h2
      refine ⟨p, vs, rfl, sqT_sub (st4.sub) (sqT_sub s4 h1), fun hw => ?_, fun _ => new_tup st4 (cut_dps h2') fun I5 H5 y5 e5 st5 d5 => o4 I5 A4 H5 y5 e5 st5 d5⟩
      rw [hl] at hw
      refine o4 I4 A4 H4 _ Ext.refl st4 ?_
      rw [whole_cut hw]
      exact .tup (sqT_sub s4 h1) h2'
  · exact o4.elim
end
end Sd

/-! Sd: new lists. -/
namespace Sd
open L2 PySem PySem.Spec PyProof.Rows
section
variable {X : Cx} {C : CK} {cf : CF} {cs : List PyData} {XR : XT} {k : Nat} {W : WX}
/-- an object at a free address, of nobody's yet -/
theorem ST.addF {K : PySem.W.Frag} {I H : Hp} {A : Ad} {m : MH} (st : ST K I A m H) {p : Addr} {o : HO} (hA : p ∉ A) (hI : I p = none) : ST K I A m (upd H p o) := by
  refine ⟨fun b u q => ?_, st.len, st.nd, fun i u a h1 h2 => ?_, fun b u q => ?_⟩
  · rw [upd_ne (ne_of_none q hI)]; exact st.sub b u q
  rotate_left
  · have ne : b ≠ p := ne_of_none q (Ad.out hA).2
    obtain ⟨x1, x2, x3⟩ := st.fr b u q
    exact ⟨by rw [upd_ne ne]; exact x1, x2, x3⟩
  · have ne : a ≠ p := fun z => (Ad.out hA).1 (by rw [← z]; exact List.mem_of_getElem? h2)
    have ok := st.obj i u a h1 h2
    cases u with
    | lst xs =>
      obtain ⟨h3, vs, h4, h5⟩ := ok
      exact ⟨h3, vs, by rw [upd_ne ne]; exact h4, h5⟩
    | fz xs => exact ok
theorem new_lst {K : PySem.W.Frag} {s : L2.St} {I H : Hp} {A : Ad} {m : MH} {vs : List V} {xs : List PyData} {Q : VK} (st : ST K I A m H) (d : DpAll K I vs xs) (o : Out K XR (relL K) W s I A (.ok xs m) Q) : ∀ p, H p = none → Q (.ref p) (upd H p (.lst vs)) := fun p hp => by
  obtain ⟨hI, hA⟩ := st.fresh hp
  exact o I A _ _ Ext.refl (st.addF hA hI) ⟨p, vs, rfl, upd_same, hI, hA, d⟩
/-- as a datum -/
theorem s_lst {l : L} {x : Expr} (h : PE X x (tL X.K XR W (evL cf cs l))) : PE X x (tE X.K XR W (ev cf cs (.lst l))) := pe_imp h fun s H Q ⟨I, A, σ, m, st, sr, o⟩ => by
  have o : Out X.K XR (relE X.K) W s I A ((evL cf cs l σ m).bind fun xs h1 => .ok (.v (.list xs)) h1) Q := o
  refine ⟨I, A, σ, m, st, sr, Out.bind o fun xs m1 I1 A1 H1 y1 e1 st1 r1 o1 => ?_⟩
  obtain ⟨p, vs, rfl, hH, hI, hA, d⟩ := r1
  exact o1 _ A1 H1 _ (ext_upd hI) (st1.keepI hA hI hH) (.lst (SqL.of upd_same) (dps_sub (sub_upd hI) d))
/-- as a list of the small heap -/
theorem s_new {l : L} {x : Expr} (h : PE X x (tL X.K XR W (evL cf cs l))) : PE X x (tE X.K XR W (ev cf cs (.new l))) := pe_imp h fun s H Q ⟨I, A, σ, m, st, sr, o⟩ => by
  have o : Out X.K XR (relE X.K) W s I A ((evL cf cs l σ m).bind fun xs h1 => .ok (.r h1.length) (h1 ++ [.lst xs])) Q := o
  refine ⟨I, A, σ, m, st, sr, Out.bind o fun xs m1 I1 A1 H1 y1 e1 st1 r1 o1 => ?_⟩
  obtain ⟨p, vs, rfl, hH, hI, hA, d⟩ := r1
  refine o1 I1 (A1.add p) H1 _ ext_app (st1.addA hA hI hH d) ⟨p, ?_, rfl⟩
  show (A1.l ++ [p])[m1.length]? = some p
  rw [← st1.len, List.getElem?_append_right (Nat.le_refl _)]
  simp
theorem s_disp {es : Es} {xs : List Expr} {p : Pos} (h : PA X xs (tP X.K XR W (evP cf cs es))) : PE X (.List xs p) (tL X.K XR W (evL cf cs (.disp es))) :=
  pe_imp (pe_lst h) fun s H Q ⟨I, A, σ, m, st, sr, o⟩ => by
    have o : Out X.K XR (relL X.K) W s I A ((evP cf cs es σ m).bind fun xs h1 => if sized xs then .ok xs h1 else .stuck) Q := o
    refine ⟨I, A, σ, m, st, sr, Out.bind o fun ds m1 I1 A1 H1 ys e1 st1 r1 o1 => ?_⟩
    cases q : sized ds with
    | false => rw [q] at o1; exact o1.elim
    | true =>
      rw [q] at o1
      exact ⟨by have := sized_le q; have l := DpAll.len r1; have := line_ge; omega, new_lst st1 r1 o1⟩
/-- the sum of two lists, whatever slots their objects have -/
theorem add_meets (l : Addr) (items : Array Value) (n : Nat) (sl : Array (Option Value)) (b : Addr) (items2 : Array Value) (n2 : Nat) (sl2 : Array (Option Value)) (hc0 : items.size + items2.size ≤ sizeLine) :
    Meets (Builtin.«list.__add__» ⟨[.ref l, .ref b], []⟩) (fun _ R s => s.heap.get? l = some { cls := .type "list", dict := none, data := .seq items n, slots := sl } ∧ s.heap.get? b = some { cls := .type "list", dict := none, data := .seq items2 n2, slots := sl2 } ∧
      R (.ok (.ret (Value.ref s.heap.objs.size))) { s with heap := s.heap.push { cls := Value.type "list", data := Data.seq (items ++ items2) }, toks := s.toks }) :=
  .of_wp fun prog w A R s h => by
    obtain ⟨hp, g, d, tk, os⟩ := s
    obtain ⟨hl, hb, h⟩ := h
    have f1 := PySem.AutoSeq1.idx_int
    have f2 := PySem.AutoSeq1.sub_tuple_tuple
    have f3 := PySem.AutoSeq1.sub_list_list
    have f4 := PySem.AutoSeq1.sub_tuple_list
    have f5 := PySem.AutoSeq1.sub_list_tuple
    wp_walk using PySem.AutoSeq1.wpAny_loadPart' hl, PySem.AutoSeq1.wpAny_loadPart' hb
    exact ⟨_, rfl, h⟩
def rCatR (K : PySem.W.Frag) : R2 := fun x y H Q => ∃ l b xs zs, x = .ref l ∧ y = .ref b ∧ SqL K H l xs ∧ SqL K H b zs ∧ xs.length + zs.length ≤ sizeLine ∧ ∀ p, H p = none → Q (.ref p) (upd H p (.lst (xs ++ zs)))
theorem op_catR : OpR X (binaryOp .Add) (rCatR X.K) := by
  intro pins s σ H x y v u Q Iv rx ry h
  obtain ⟨l, b, xs, zs, rfl, rfl, h1, h2, hz, q⟩ := h
  cases rx
  cases ry
  obtain ⟨its, r, ⟨⟨c1, d1, e1, sl1⟩, n, p1, q1, q2, q3⟩, _⟩ := Iv.list h1
  obtain ⟨its2, r2, ⟨⟨c2, d2, e2, sl2⟩, n2, p2, q4, q5, q6⟩, _⟩ := Iv.list h2
  dsimp only at q1 q2 q3 q4 q5 q6
  subst q1 q2 q3 q4 q5 q6
  have l1 := r.length
  have l2 := r2.length
  refine PySem.concat_meets ⟨_, p1, rfl⟩ ⟨_, p2, rfl⟩ PySem.noFill_list_add PySem.seq_list_add PySem.F.slot_list_add PySem.F.entry_list_add (PySem.F.args_list_add_2 _ _) (add_meets l its.toArray n sl1 b its2.toArray n2 sl2 (by simp only [List.size_toArray]; omega)) ⟨p1, p2, ?_⟩
  have ea : its.toArray ++ its2.toArray = (its ++ its2).toArray := by simp
  rw [ea]
  exact ⟨.ref _, _, Iv.lnew (t' := s.toks) (r.append r2) (by rw [List.length_append]; omega), rfl, q _ Iv.fresh⟩
theorem s_cat {a b : E} {x y : Expr} {p : Pos} (ha : PE X x (tE X.K XR W (ev cf cs a))) (hb : PE X y (tE X.K XR W (ev cf cs b))) : PE X (.BinOp x .Add y p) (tL X.K XR W (evL cf cs (.cat a b))) :=
  pe_imp (pe_op op_catR ha hb) fun s H Q ⟨I, A, σ, m, st, sr, o⟩ => by
    have o : Out X.K XR (relL X.K) W s I A ((ev cf cs a σ m).bind fun v h1 => (ev cf cs b σ h1).bind fun w h2 => snap2 v w h2 fun x y => match x, y with
      | .list xs, .list ys => if sized xs && sized ys then .ok (xs ++ ys) h2 else .stuck
      | _, _ => .stuck) Q := o
    refine ⟨I, A, σ, m, st, sr, Out.bind o fun v m1 I1 A1 H1 y1 e1 st1 r1 o1 => ?_⟩
    refine ⟨I1, A1, σ, m1, st1, sr.mono e1, Out.bind o1 fun w m2 I2 A2 H2 y2 e2 st2 r2 o2 => ?_⟩
    have r1' : RR X.K I2 A2 v y1 := RR.mono e2 r1
    unfold snap2 at o2
    cases q1 : snap v m2 with
    | none => rw [q1] at o2; exact o2.elim
    | some d =>
      rw [q1] at o2
      cases q2 : snap w m2 with
      | none => rw [q2] at o2; exact o2.elim
      | some e =>
        rw [q2] at o2
        dsimp only at o2
        have n1 := now_snap st2 r1' q1
        have n2 := now_snap st2 r2 q2
        cases d <;> cases e <;> first | exact o2.elim | skip
        dsimp only at o2
        split at o2
        · rename_i hs
          rw [Bool.and_eq_true] at hs
          obtain ⟨p, vs, rfl, h1, h2⟩ := n1.lstv st2.sub
          obtain ⟨r, ws, rfl, h3, h4⟩ := n2.lstv st2.sub
          have l1 := DpAll.len h2
          have l2 := DpAll.len h4
          have z1 := sized_le hs.1
          have z2 := sized_le hs.2
          exact ⟨p, r, vs, ws, rfl, rfl, h1, h3, by have := line_ge; omega, new_lst st2 (DpAll.app h2 h4) o2⟩
        · exact o2.elim
theorem s_list {e : E} {x : Expr} {p pos : Pos} (G0 : G C cf cs XR k X) (hg : Gl X "list") (hs : notStar x = true) (h : PE X x (tE X.K XR W (ev cf cs e))) : PE X (.Call (.Name "list" p) [x] [] pos) (tL X.K XR W (evL cf cs (.list e))) :=
  pe_imp (pe_callTy call_list_of hg (G0.blt _ (by unfold builtNames; simp)) (by decide +kernel) (pa_cons h pa_nil (star_of hs)) (he := star_of hs)) fun s H Q ⟨I, A, σ, m, st, sr, o⟩ => by
    have o : Out X.K XR (relL X.K) W s I A ((dat (ev cf cs e σ m)).bind fun x h1 => match seqOf x with
      | some xs => if sized xs then .ok xs h1 else .stuck
      | none => .stuck) Q := o
    rw [dat_bind] at o
    refine ⟨I, A, σ, m, st, sr, Out.bind o fun v m1 I1 A1 H1 y1 e1 st1 r1 o1 => ?_⟩
    obtain ⟨d, n, o1⟩ := snap_bind st1 r1 o1
    cases q : seqOf d with
    | none => rw [q] at o1; exact o1.elim
    | some xs =>
      rw [q] at o1
      dsimp only at o1
      split at o1
      · obtain ⟨p, vs, rfl, h2, h1⟩ := seqOf_now st1.sub n q
        refine ⟨p, vs, rfl, ?_, new_lst st1 h2 o1⟩
        rcases h1 with ⟨_, h1⟩ | ⟨_, h1⟩
        · exact .inl h1
        · exact .inr h1
      · exact o1.elim
theorem ins_perm (x : Int) : ∀ l, (ins x l).Perm (x :: l)
  | [] => .refl _
  | y :: r => by
    show (if x ≤ y then x :: y :: r else y :: ins x r).Perm (x :: y :: r)
    split
    · exact .refl _
    · exact ((ins_perm x r).cons y).trans (.swap x y r)
theorem isort_perm : ∀ l, (isort l).Perm l
  | [] => .refl _
  | x :: r => (ins_perm x (isort r)).trans ((isort_perm r).cons x)
theorem ins_pair (x : Int) : ∀ l, l.Pairwise (· ≤ ·) → (ins x l).Pairwise (· ≤ ·)
  | [], _ => by
    show List.Pairwise _ [x]
    exact List.pairwise_singleton _ _
  | y :: r, h => by
    show (if x ≤ y then x :: y :: r else y :: ins x r).Pairwise (· ≤ ·)
    obtain ⟨h1, h2⟩ := List.pairwise_cons.mp h
    split
    · rename_i c
      refine List.pairwise_cons.mpr ⟨fun z hz => ?_, h⟩
      rcases List.mem_cons.mp hz with rfl | hz
      · exact c
      · exact Int.le_trans c (h1 z hz)
    · rename_i c
      refine List.pairwise_cons.mpr ⟨fun z hz => ?_, ins_pair x r h2⟩
      rcases List.mem_cons.mp ((ins_perm x r).mem_iff.mp hz) with rfl | hz
      · omega
      · exact h1 z hz
theorem isort_pair : ∀ l, (isort l).Pairwise (· ≤ ·)
  | [] => .nil
  | x :: r => ins_pair x _ (isort_pair r)
theorem s_sorted {e : E} {x : Expr} {p pos : Pos} (G0 : G C cf cs XR k X) (hg : Gl X "sorted") (hs : notStar x = true) (h : PE X x (tE X.K XR W (ev cf cs e))) : PE X (.Call (.Name "sorted" p) [x] [] pos) (tL X.K XR W (evL cf cs (.sorted e))) :=
  pe_imp (pe_callB cr_sorted hg (G0.blt _ (by unfold builtNames; simp)) (by decide +kernel) (pa_cons h pa_nil (star_of hs)) (he := star_of hs)) fun s H Q ⟨I, A, σ, m, st, sr, o⟩ => by
    have o : Out X.K XR (relL X.K) W s I A ((dat (ev cf cs e σ m)).bind fun x h1 => match x with
      | .list xs => match intsD xs with
        | some l => if l.length < 64 then .ok ((isort l).map PyData.int) h1 else .stuck
        | none => .stuck
      | _ => .stuck) Q := o
    rw [dat_bind] at o
    refine ⟨I, A, σ, m, st, sr, Out.bind o fun v m1 I1 A1 H1 y1 e1 st1 r1 o1 => ?_⟩
    obtain ⟨d, n, o1⟩ := snap_bind st1 r1 o1
    cases d <;> first | exact o1.elim | skip
    rename_i xs
    dsimp only at o1
    cases q : intsD xs with
    | none => rw [q] at o1; exact o1.elim
    | some l =>
      rw [q] at o1
      dsimp only at o1
      split at o1
      · rename_i hl
        obtain ⟨p, vs, rfl, h1, h2⟩ := n.lstv st1.sub
        rw [ints_v h2 q] at h1
        refine ⟨p, l, rfl, h1, hl, fun ns' p' hp hw hn => ?_⟩
        have e : ns' = isort l := PySem.W.ksm_same (hp.trans (isort_perm l).symm) hw (isort_pair l)
        subst e
        exact new_lst st1 (dps_ints _) o1 p' hn
      · exact o1.elim
theorem s_slice {a : E} {lo hi : Eo} {x : Expr} {l u : Option Expr} {p p2 : Pos} (ha : PE X x (tE X.K XR W (ev cf cs a))) (hl : PO X l (tG X.K XR relO W (evO cf cs lo))) (hu : PO X u (tG X.K XR relO W (evO cf cs hi))) :
    PE X (.Subscript x (.Slice l u none p2) p) (tL X.K XR W (evL cf cs (.slice a lo hi))) := pe_imp (pe_slice sl_list ha hl hu) fun s H Q ⟨I, A, σ, m, st, sr, o⟩ => by
  have o : Out X.K XR (relL X.K) W s I A ((datP (ev cf cs a σ m)).bind fun x h1 => (evO cf cs lo σ h1).bind fun l h2 => (evO cf cs hi σ h2).bind fun u h3 => match x with
    | .list xs => if sized xs then .ok (cut xs l u) h3 else .stuck
    | _ => .stuck) Q := o
  rw [datP_bind] at o
  refine ⟨I, A, σ, m, st, sr, Out.bind o fun v m1 I1 A1 H1 y1 e1 st1 r1 o1 => ?_⟩
  obtain ⟨d, m2, I2, e2, st2, d2, o1⟩ := kept_ok st1 r1 o1
  refine ⟨I2, A1, σ, m2, st2, sr.mono (e1.trans e2), Out.bind o1 fun l m3 I3 A3 H3 l' e3 st3 r3 o3 => ?_⟩
  have r3' : l = l' := r3
  subst r3'
  refine ⟨I3, A3, σ, m3, st3, sr.mono ((e1.trans e2).trans e3), Out.bind o3 fun u m4 I4 A4 H4 u' e4 st4 r4 o4 => ?_⟩
  have r4' : u = u' := r4
  subst r4'
  cases d <;> first | exact o4.elim | skip
  rename_i xs
  have o4 : Out X.K XR (relL X.K) W s I4 A4 (if sized xs then .ok (cut xs l u) m4 else .stuck) Q := o4
  split at o4
  · cases d2 with
    | lst h1 h2 =>
      rename_i p vs
      have s4 := (e3.trans e4).sub
      exact ⟨p, vs, rfl, sqL_sub st4.sub (sqL_sub s4 h1), new_lst st4 (cut_dps (dps_sub s4 h2)) o4⟩
  · exact o4.elim
/-! ### index of a list of ints -/
theorem placeI_ok {x : Int} : ∀ {l : List Int} {i j : Nat}, placeI x l i = some j → i ≤ j ∧ l[j - i]? = some x ∧ ∀ m z, m < j - i → l[m]? = some z → z ≠ x
  | [], _, _, h => by cases h
  | y :: l, i, j, h => by
    have h' : (if y = x then some i else placeI x l (i + 1)) = some j := h
    split at h'
    · rename_i c
      cases h'
      exact ⟨Nat.le_refl _, by simp [c], fun m z hm => by omega⟩
    · rename_i c
      obtain ⟨h1, h2, h3⟩ := placeI_ok h'
      have e : j - i = (j - (i + 1)) + 1 := by omega
      refine ⟨by omega, by rw [e]; simpa using h2, fun m z hm hz => ?_⟩
      cases m with
      | zero =>
        simp at hz
        rw [← hz]
        exact c
      | succ m => exact h3 m z (by omega) (by simpa using hz)
theorem eqV_int (a b : Int) : eqV (.int a) (.int b) = decide (a = b) := by
  unfold eqV
  first | rfl | simp
theorem lstQ_ty {K : PySem.W.Frag} {I H : Hp} {A : Ad} {m : MH} {v : RV} {y : V} (st : ST K I A m H) (r : RR K I A v y) (h : lstQ v m = true) : tyV K "list" y H := by
  cases v with
  | v d =>
    cases d <;> first | exact Bool.noConfusion h | skip
    cases r with
    | lst h1 h2 => exact .inl ⟨rfl, _, sqL_sub st.sub h1⟩
  | r i =>
    obtain ⟨a, ha, rfl⟩ := r
    have hi : i < m.length := of_decide_eq_true h
    have ok := st.obj i m[i] a (List.getElem?_eq_getElem hi) ha
    cases q : m[i] with
    | lst xs =>
      rw [q] at ok
      obtain ⟨_, vs, h1, _⟩ := ok
      exact .inl ⟨rfl, vs, SqL.of h1⟩
    | fz xs =>
      rw [q] at ok
      obtain ⟨vs, h1, _⟩ := ok
      exact .inl ⟨rfl, vs, SqL.of (st.sub _ _ h1)⟩
theorem s_index {a b : E} {x z : Expr} {ap cp : Pos} (hp : plainObj x = true) (hl : (ap.endLine == cp.line) = true) (hz : notStar z = true) (ha : PE X x (tE X.K XR W (ev cf cs a))) (hb : PE X z (tE X.K XR W (ev cf cs b))) :
    PE X (.Call (.Attribute x "index" ap) [z] [] cp) (tE X.K XR W (ev cf cs (.index a b))) := by
  refine pe_imp (pe_bm PySem.F.plainAttrs_list PySem.F.slot_list_index PySem.F.type_list_index mt_index ha (pa_cons hb pa_nil (star_of hz)) (hbase := ?_) (hfew := ?_) (hline := hl) (hs := star_of hz)) fun s H Q ⟨I, A, σ, m, st, sr, o⟩ => ?_
  · cases x <;> first | rfl | exact Bool.noConfusion hp
  · rw [star_of hz]; rfl
  · have o : Out X.K XR (relE X.K) W s I A ((ev cf cs a σ m).bind fun v h1 => if lstQ v h1 then (ev cf cs b σ h1).bind fun w h2 => snap2 v w h2 fun y z => match y with
      | .list xs => match intsD xs with
        | some l => match z with
          | .int k => liftO ((placeI k l 0).map fun i => RV.v (.int i)) h2
          | _ => .stuck
        | none => .stuck
      | _ => .stuck
      else .stuck) Q := o
    refine ⟨I, A, σ, m, st, sr, Out.bind o fun v m1 I1 A1 H1 y1 e1 st1 r1 o1 => ?_⟩
    split at o1
    · rename_i hq
      refine ⟨lstQ_ty st1 r1 hq, I1, A1, σ, m1, st1, sr.mono e1, Out.bind o1 fun w m2 I2 A2 H2 y2 e2 st2 r2 o2 => ?_⟩
      have r1' : RR X.K I2 A2 v y1 := RR.mono e2 r1
      unfold snap2 at o2
      cases q1 : snap v m2 with
      | none => rw [q1] at o2; exact o2.elim
      | some d =>
        rw [q1] at o2
        cases q2 : snap w m2 with
        | none => rw [q2] at o2; exact o2.elim
        | some e =>
          rw [q2] at o2
          dsimp only at o2
          have n1 := now_snap st2 r1' q1
          have n2 := now_snap st2 r2 q2
          cases d <;> first | exact o2.elim | skip
          rename_i xs
          dsimp only at o2
          cases q3 : intsD xs with
          | none => rw [q3] at o2; exact o2.elim
          | some l =>
            rw [q3] at o2
            cases e <;> first | exact o2.elim | skip
            rename_i kk
            dsimp only at o2
            cases q4 : placeI kk l 0 with
            | none => rw [q4] at o2; exact o2.elim
            | some j =>
              rw [q4] at o2
              obtain ⟨p, vs, rfl, h1, h2⟩ := n1.lstv st2.sub
              rw [ints_v h2 q3] at h1
              obtain ⟨_, h4, h5⟩ := placeI_ok q4
              rw [n2.intv]
              refine ⟨p, l.map V.int, .int kk, j, .int kk, rfl, rfl, h1, rfl, by simp [flatV], by rw [List.getElem?_map]; simpa using h4, by rw [eqV_int]; simp, fun mm z' hm hz' => ?_, o2 I2 A2 H2 _ Ext.refl st2 (.int _)⟩
              rw [List.getElem?_map] at hz'
              cases q5 : l[mm]? with
              | none => rw [q5] at hz'; cases hz'
              | some z0 =>
                rw [q5] at hz'
                cases hz'
                rw [eqV_int]
                exact decide_eq_false (h5 mm z0 (by omega) q5)
    · exact o1.elim
end
end Sd

/-! Sd: targets. -/
namespace Sd
open L2 PySem PySem.Spec PyProof.Rows
section
variable {K : PySem.W.Frag} {C : CK} {X : Cx}
/-- the same slots but for those at vs -/
def Same (vs : List Nat) (s s' : L2.St) : Prop := s'.length = s.length ∧ ∀ i, i ∉ vs → s'[i]? = s[i]?
theorem Same.refl {vs : List Nat} {s : L2.St} : Same vs s s := ⟨rfl, fun _ _ => rfl⟩
theorem Same.trans {vs ws : List Nat} {s s1 s2 : L2.St} (a : Same vs s s1) (b : Same ws s1 s2) : Same (vs ++ ws) s s2 :=
  ⟨b.1.trans a.1, fun i h => (b.2 i fun z => h (List.mem_append_right _ z)).trans (a.2 i fun z => h (List.mem_append_left _ z))⟩
theorem wipe_in {s : L2.St} {i : Nat} : ∀ {vs : List Nat}, i ∈ vs → (wipe s vs)[i]? = if i < s.length then some none else none
  | v :: vs, h => by
    unfold wipe
    by_cases e : v = i
    · subst e
      split
      · rename_i hv
        rw [List.getElem?_set_self (by rw [wipe_length]; exact hv)]
      · rename_i hv
        rw [List.getElem?_eq_none (by rw [List.length_set, wipe_length]; omega)]
    · rw [List.getElem?_set_ne e]
      exact wipe_in ((List.mem_cons.mp h).resolve_left fun z => e z.symm)
theorem Same.wipe {ws vs : List Nat} {s s' : L2.St} (a : Same ws s s') (h : ∀ i ∈ ws, i ∈ vs) : L2.wipe s' vs = L2.wipe s vs := by
  refine List.ext_getElem? fun i => ?_
  by_cases hi : i ∈ vs
  · rw [wipe_in hi, wipe_in hi, a.1]
  · rw [wipe_out hi, wipe_out hi]
    exact a.2 i fun z => hi (h i z)
theorem SR.set {I : Hp} {A : Ad} {σ : Sl} {s : L2.St} {i : Nat} {x : RV} {v : V} (h : SR K I A σ s) (r : RR K I A x v) : SR K I A (setS σ i x) (s.set i (some v)) := by
  unfold setS
  refine ⟨by rw [List.length_set, List.length_set]; exact h.len, fun j y q => ?_⟩
  by_cases hj : i = j
  · subst hj
    by_cases hi : i < σ.length
    · rw [List.getElem?_set_self hi] at q
      cases q
      exact ⟨v, List.getElem?_set_self (by rw [← h.len]; exact hi), r⟩
    · rw [List.getElem?_eq_none (by rw [List.length_set]; omega)] at q
      cases q
  · rw [List.getElem?_set_ne hj] at q ⊢
    exact h.at_ j y q
/-- names that may be stored -/
def GT (sc : Scope) (X : Cx) : Prop := ∀ id, locB sc id = true → Loc X.env.scope id ∧ (X.fn id = true ∨ X.env.scope.names.lookup id = some .local)
def tTg (K : PySem.W.Frag) (t : Tg) : TG := fun v s H Q => ∃ I A σ m x σ', ST K I A m H ∧ SR K I A σ s ∧ RR K I A x v ∧ setT t x σ = some σ' ∧ ∀ s', SR K I A σ' s' → Same (tgSlots t) s s' → Q s' H
def tTgs (K : PySem.W.Frag) (ts : Tgs) : TGs := fun vs s H Q => ∃ I A σ m xs σ', ST K I A m H ∧ SR K I A σ s ∧ DpAll K I vs xs ∧ setTs ts xs σ = some σ' ∧ ∀ s', SR K I A σ' s' → Same (tgsSlots ts) s s' → Q s' H
theorem pg_imp {e : Expr} {t t' : TG} (h : PG X e t) (k : ∀ v s H Q, t' v s H Q → t v s H Q) : PG X e t' := ⟨fun pins s σ H v u Q I r q => h.run pins s σ H v u Q I r (k v σ H Q q)⟩
theorem pgs_imp {e : List Expr} {t t' : TGs} (h : PGs X e t) (k : ∀ v s H Q, t' v s H Q → t v s H Q) : PGs X e t' := ⟨fun pins s σ H v u Q I r q => h.run pins s σ H v u Q I r (k v σ H Q q)⟩
theorem pg_or {e : Expr} {t u : TG} (h : PG X e t) (k : PG X e u) : PG X e (fun v s H Q => t v s H Q ∨ u v s H Q) := ⟨fun pins s σ H v w Q I r q => q.elim (h.run pins s σ H v w Q I r) (k.run pins s σ H v w Q I r)⟩
theorem s_tgVar {i : Nat} {id : Str} {p : Pos} (hN : X.N = C.N) (nd : X.N.Nodup) (hi : C.N[i]? = some id) (hl : Loc X.env.scope id ∧ (X.fn id = true ∨ X.env.scope.names.lookup id = some .local)) : PG X (.Name id p) (tTg X.K (.var i)) :=
  pg_imp (pg_name nd (by rw [hN]; exact hi) hl.1 hl.2) fun v s H Q h => by
    obtain ⟨I, A, σ, m, x, σ', st, sr, r, e, q⟩ := h
    have e' : (if i < σ.length then some (setS σ i x) else none) = some σ' := e
    split at e'
    · cases e'
      exact q _ (sr.set r) ⟨List.length_set, fun j hj => List.getElem?_set_ne fun z => hj (by rw [z]; exact List.mem_cons_self)⟩
    · cases e'
theorem each_of {e : Expr} {es : List Expr} {env : PySem.Env} (h : plainTg e = true) : assignEach (e :: es) env = (false, assign e env) :: assignEach es env := by
  cases e <;> first | rfl | exact Bool.noConfusion h
theorem each_ok {env : PySem.Env} : ∀ {es : List Expr}, es.all plainTg = true → (assignEach es env).length = es.length ∧ (assignEach es env).findIdx? (·.1) = none
  | [], _ => ⟨rfl, rfl⟩
  | e :: es, h => by
    simp only [List.all_cons, Bool.and_eq_true] at h
    rw [each_of h.1]
    obtain ⟨h1, h2⟩ := each_ok h.2
    refine ⟨by rw [List.length_cons, List.length_cons, h1], ?_⟩
    rw [List.findIdx?_cons]
    simp only [h2]
    rfl
theorem s_tgs0 : PGs X [] (tTgs X.K .nil) := pgs_imp pgs_nil fun v s H Q h => by
  obtain ⟨I, A, σ, m, xs, σ', st, sr, d, e, q⟩ := h
  cases d with
  | nil => cases e; exact ⟨rfl, q s sr Same.refl⟩
  | cons _ _ => cases e
theorem s_tgs {t : Tg} {ts : Tgs} {e : Expr} {es : List Expr} (hp : plainTg e = true) (h1 : PG X e (tTg X.K t)) (h2 : PGs X es (tTgs X.K ts)) : PGs X (e :: es) (tTgs X.K (.cons t ts)) :=
  pgs_imp (pgs_cons h1 h2 (by rw [each_of hp]; rfl)) fun v s H Q h => by
    obtain ⟨I, A, σ, m, xs, σ', st, sr, d, e, q⟩ := h
    cases d with
    | nil => cases e
    | cons d ds =>
      rename_i v vs x xs
      have e' : (match setT t (.v x) σ with
        | some σ' => setTs ts xs σ'
        | none => none) = some σ' := e
      cases q1 : setT t (.v x) σ with
      | none => rw [q1] at e'; cases e'
      | some σ1 =>
        rw [q1] at e'
        exact ⟨_, _, rfl, I, A, σ, m, .v x, σ1, st, sr, d, q1, fun s1 sr1 sm1 => ⟨I, A, σ1, m, xs, σ', st, sr1, ds, e', fun s2 sr2 sm2 => q s2 sr2 (sm1.trans sm2)⟩⟩
def lenTs : Tgs → Nat
  | .nil => 0
  | .cons _ ts => lenTs ts + 1
theorem setTs_len : ∀ {ts : Tgs} {xs : List PyData} {σ σ' : Sl}, setTs ts xs σ = some σ' → xs.length = lenTs ts
  | .nil, [], _, _, _ => rfl
  | .nil, _ :: _, _, _, h => by cases h
  | .cons t ts, [], _, _, h => by cases h
  | .cons t ts, x :: xs, σ, σ', h => by
    have h' : (match setT t (.v x) σ with
      | some σ' => setTs ts xs σ'
      | none => none) = some σ' := h
    cases q1 : setT t (.v x) σ with
    | none => rw [q1] at h'; cases h'
    | some σ1 =>
      rw [q1] at h'
      show xs.length + 1 = lenTs ts + 1
      rw [setTs_len h']
theorem s_tgTup {ts : Tgs} {es : List Expr} {j : Nat} {p : Pos} (hc : X.calm = true) (hp : es.all plainTg = true) (hl : es.length = lenTs ts) (h : PGs X es (tTgs X.K ts)) : PG X (.Tuple es j p) (tTg X.K (.tup ts)) := by
  obtain ⟨e1, e2⟩ := each_ok (env := X.env) hp
  refine pg_imp (pg_or (pg_tup (n := lenTs ts) hc h (by rw [e1, hl]) e2) (pg_lst (n := lenTs ts) hc h (by rw [e1, hl]) e2)) fun v s H Q h => ?_
  obtain ⟨I, A, σ, m, x, σ', st, sr, r, e, q⟩ := h
  cases x with
  | r i => cases e
  | v x =>
    cases x <;> first | (cases e; done) | skip
    · rename_i xs
      have e' : setTs ts xs σ = some σ' := e
      cases r with
      | lst h1 h2 =>
        rename_i a vs
        exact .inr ⟨a, vs, rfl, sqL_sub st.sub h1, by rw [DpAll.len h2, setTs_len e'], I, A, σ, m, xs, σ', st, sr, h2, e', q⟩
    · rename_i xs
      have e' : setTs ts xs σ = some σ' := e
      cases r with
      | tup h1 h2 =>
        rename_i a vs
        exact .inl ⟨a, vs, rfl, sqT_sub st.sub h1, by rw [DpAll.len h2, setTs_len e'], I, A, σ, m, xs, σ', st, sr, h2, e', q⟩
/-! the checks -/
theorem ckT_plain : ∀ {sc : Scope} {t : Tg} {e : Expr}, ckT C sc t e = true → plainTg e = true
  | sc, .var i, e, h => by cases e <;> first | rfl | (unfold ckT at h; exact Bool.noConfusion h)
  | sc, .tup ts, e, h => by cases e <;> first | rfl | (unfold ckT at h; exact Bool.noConfusion h)
theorem ckTs_plain : ∀ {sc : Scope} {ts : Tgs} {es : List Expr}, ckTs C sc ts es = true → es.all plainTg = true ∧ es.length = lenTs ts
  | sc, .nil, [], _ => ⟨rfl, rfl⟩
  | sc, .nil, _ :: _, h => by unfold ckTs at h; exact Bool.noConfusion h
  | sc, .cons t ts, [], h => by unfold ckTs at h; exact Bool.noConfusion h
  | sc, .cons t ts, e :: es, h => by
    unfold ckTs at h
    rw [Bool.and_eq_true] at h
    obtain ⟨a, b⟩ := ckTs_plain h.2
    exact ⟨by rw [List.all_cons, ckT_plain h.1, a]; rfl, by show es.length + 1 = lenTs ts + 1; rw [b]⟩
mutual
theorem tg_ok (hN : X.N = C.N) (nd : X.N.Nodup) (hc : X.calm = true) {sc : Scope} (gt : GT sc X) : ∀ (t : Tg) (e : Expr), ckT C sc t e = true → PG X e (tTg X.K t)
  | .var i, e, h => by
    cases e <;> first | (unfold ckT at h; exact Bool.noConfusion h) | skip
    unfold ckT at h
    rw [Bool.and_eq_true] at h
    exact s_tgVar hN nd (of_decide_eq_true h.1) (gt _ h.2)
  | .tup ts, e, h => by
    cases e <;> first | (unfold ckT at h; exact Bool.noConfusion h) | skip
    unfold ckT at h
    obtain ⟨a, b⟩ := ckTs_plain h
    exact s_tgTup hc a b (tgs_ok hN nd hc gt ts _ h)
theorem tgs_ok (hN : X.N = C.N) (nd : X.N.Nodup) (hc : X.calm = true) {sc : Scope} (gt : GT sc X) : ∀ (ts : Tgs) (es : List Expr), ckTs C sc ts es = true → PGs X es (tTgs X.K ts)
  | .nil, [], _ => s_tgs0
  | .nil, _ :: _, h => by unfold ckTs at h; exact Bool.noConfusion h
  | .cons t ts, [], h => by unfold ckTs at h; exact Bool.noConfusion h
  | .cons t ts, e :: es, h => by
    unfold ckTs at h
    rw [Bool.and_eq_true] at h
    exact s_tgs (ckT_plain h.1) (tg_ok hN nd hc gt t e h.1) (tgs_ok hN nd hc gt ts es h.2)
end
end
end Sd

/-! Sd: what a loop walks. -/
namespace Sd
open L2 PySem PySem.Spec PyProof.Rows
section
variable {K : PySem.W.Frag} {C : CK} {X : Cx} {cf : CF} {cs : List PyData} {XR : XT} {k : Nat} {W : WX} {tg : Expr}
/-- the next item: it stands there, or it is a new tuple -/
def YD (K : PySem.W.Frag) (I : Hp) (xs : List PyData) : Nat → Hp → V → Hp → Prop := fun i H v H' => ∃ x, xs[i]? = some x ∧
  ((H' = H ∧ Dp K I v x) ∨ ∃ T vs ds, v = .ref T ∧ H T = none ∧ H' = upd H T (.tup vs) ∧ x = .tuple ds ∧ DpAll K I vs ds)
def relI (K : PySem.W.Frag) : Hp → Ad → MH → Hp → List PyData → L2.It → Prop := fun I _ _ _ xs J => Walk J xs.length (fun H => Sub I H) (YD K I xs)
abbrev tI (K : PySem.W.Frag) (XR : XT) (W : WX) (f : Sl → MH → Re (List PyData)) : TI := tG K XR (relI K) W f
theorem pi_imp {e : Expr} {t t' : TI} (h : PI X tg e t) (k : ∀ s H Q, t' s H Q → t s H Q) : PI X tg e t' := ⟨fun pins s σ H Q I q => h.run pins s σ H Q I (k σ H Q q)⟩
def iSeq (K : PySem.W.Frag) (tl : TE) : TI := fun σ H R => tl σ H fun x H1 => ∃ a, x = .ref a ∧ (((∃ xs, SqL K H1 a xs) ∧ R (Itl K a) H1) ∨ ((∃ xs, SqT K H1 a xs) ∧ R (Itt K a) H1))
/-- a list or a tuple -/
theorem pi_seq {l : Expr} {tl : TE} (hl : PE X l tl) : PI X tg l (iSeq X.K tl) := by
  refine ⟨fun pins s σ H R I h => ?_⟩
  refine thn (hl.run pins s σ H _ I h) fun v s1 ⟨x, H1, I1, r1, q1⟩ => ?_
  obtain ⟨a, e, q1⟩ := q1
  subst e
  cases r1
  have fr : ∀ b ∈ [s1.heap.objs.size], FpOk X pins H1 b := fun b hb => by
    have e : b = s1.heap.objs.size := by simpa using hb
    rw [e]
    exact I1.fpOk (Nat.le_refl _) (I1.hok.fresh (Nat.le_refl _))
  rcases q1 with ⟨⟨xs, hq⟩, q⟩ | ⟨⟨xs, hq⟩, q⟩
  · obtain ⟨its, _, p, _⟩ := I1.list hq
    refine wpAny_pyIter_list p.isList ⟨s1.heap.objs.size, [s1.heap.objs.size], _, _, H1, rfl, ?_, turn_list a _, ⟨_, Heap.get?_push_size _ rfl, rfl, rfl⟩, fr, q⟩
    exact I1.kept (t' := s1.toks) fun b o e => Heap.get?_push_of_some _ e
  · obtain ⟨its, _, p, _⟩ := I1.tuple hq
    refine wpAny_pyIter_tuple (show s1.heap.IsTuple a its.toArray from p) ⟨s1.heap.objs.size, [s1.heap.objs.size], _, _, H1, rfl, ?_, turn_tuple a _, ⟨_, Heap.get?_push_size _ rfl, rfl, rfl⟩, fr, q⟩
    exact I1.kept (t' := s1.toks) fun b o e => Heap.get?_push_of_some _ e
theorem walk_l {I : Hp} {a : Addr} {vs : List V} {xs : List PyData} (h : SqL K I a vs) (d : DpAll K I vs xs) : Walk (Itl K a) xs.length (fun H => Sub I H) (YD K I xs) := by
  have w := walk_list (K := K) (a := a) (xs := vs)
  rw [DpAll.len d] at w
  exact w.mono (fun H s => sqL_sub s h) fun i H x H' hi s y => let ⟨z, h1, h2⟩ := DpAll.getV d y.2; ⟨z, h1, .inl ⟨y.1, h2⟩⟩
theorem walk_t {I : Hp} {a : Addr} {vs : List V} {xs : List PyData} (h : SqT K I a vs) (d : DpAll K I vs xs) : Walk (Itt K a) xs.length (fun H => Sub I H) (YD K I xs) := by
  have w := walk_tup (K := K) (a := a) (xs := vs)
  rw [DpAll.len d] at w
  exact w.mono (fun H s => sqT_sub s h) fun i H x H' hi s y => let ⟨z, h1, h2⟩ := DpAll.getV d y.2; ⟨z, h1, .inl ⟨y.1, h2⟩⟩
theorem rngL_len : ∀ (n : Nat) (a : Int), (rngL n a).length = n
  | 0, _ => rfl
  | n + 1, a => congrArg (· + 1) (rngL_len n (a + 1))
theorem rngL_get : ∀ (n : Nat) (a : Int) (i : Nat), i < n → (rngL n a)[i]? = some (.int (a + i))
  | 0, _, _, h => absurd h (Nat.not_lt_zero _)
  | n + 1, a, 0, _ => by
    show some (PyData.int a) = _
    simp
  | n + 1, a, i + 1, h => by
    show (rngL n (a + 1))[i]? = _
    rw [rngL_get n (a + 1) i (by omega)]
    congr 2
    omega
theorem walk_r {I : Hp} {n : Nat} {a : Int} : Walk (Itr a n) (rngL n a).length (fun H => Sub I H) (YD K I (rngL n a)) := by
  rw [rngL_len]
  exact (walk_range (lo := a) (n := n)).mono (fun _ _ => trivial) fun i H x H' hi s y => ⟨_, rngL_get n a i hi, .inl ⟨y.1, by rw [y.2]; exact .int _⟩⟩
theorem enumL_len : ∀ (xs : List PyData) (i : Int), (enumL xs i).length = xs.length
  | [], _ => rfl
  | x :: xs, i => congrArg (· + 1) (enumL_len xs (i + 1))
theorem enumL_get : ∀ (xs : List PyData) (a : Int) (i : Nat) (x : PyData), xs[i]? = some x → (enumL xs a)[i]? = some (.tuple [.int (a + i), x])
  | [], _, _, _, h => by simp at h
  | y :: xs, a, 0, x, h => by
    simp at h
    subst h
    show some (PyData.tuple [.int a, y]) = _
    simp
  | y :: xs, a, i + 1, x, h => by
    show (enumL xs (a + 1))[i]? = _
    rw [enumL_get xs (a + 1) i x (by simpa using h)]
    congr 4
    omega
theorem walk_e {I : Hp} {a : Addr} {vs : List V} {xs : List PyData} (h : SqL K I a vs) (d : DpAll K I vs xs) : Walk (Ite K a) (enumL xs 0).length (fun H => Sub I H) (YD K I (enumL xs 0)) := by
  have w := walk_enum (K := K) (a := a) (xs := vs)
  rw [DpAll.len d, ← enumL_len xs 0] at w
  refine w.mono (fun H s => sqL_sub s h) fun i H v H' hi s y => ?_
  obtain ⟨T, x, z, h1, h2, h3, h4, h5⟩ := y
  obtain ⟨e, h6, h7⟩ := DpAll.getV d h5
  cases h4
  refine ⟨_, enumL_get xs 0 i e h6, .inr ⟨T, _, _, h1, h2, h3, rfl, ?_⟩⟩
  rw [Int.zero_add]
  exact .cons (.int _) (.cons h7 .nil)
theorem zipL_len : ∀ (xs ys : List PyData), (zipL xs ys).length = min xs.length ys.length
  | [], _ => by simp [zipL]
  | _ :: _, [] => by simp [zipL]
  | x :: xs, y :: ys => by
    show (zipL xs ys).length + 1 = min (xs.length + 1) (ys.length + 1)
    rw [zipL_len xs ys]
    omega
theorem zipL_get : ∀ (xs ys : List PyData) (i : Nat) (x y : PyData), xs[i]? = some x → ys[i]? = some y → (zipL xs ys)[i]? = some (.tuple [x, y])
  | [], _, _, _, _, h, _ => by simp at h
  | _ :: _, [], _, _, _, _, h => by simp at h
  | a :: xs, b :: ys, 0, x, y, h, g => by
    simp at h g
    subst h g
    rfl
  | a :: xs, b :: ys, i + 1, x, y, h, g => zipL_get xs ys i x y (by simpa using h) (by simpa using g)
theorem walk_zipT {a b : Addr} {xs ys : List V} {n : Nat} (hn : n = min xs.length ys.length) : Walk (RZ.ItzT K a b) n (fun H => SqT K H a xs ∧ SqT K H b ys) (YPair (fun i => xs[i]?) (fun i => ys[i]?)) := by
  subst hn
  refine ⟨fun i _ hi q => ?_, fun _ q => ⟨xs, ys, q.1, q.2, by omega⟩, fun i H v H' _ q y => ?_⟩
  · have h1 : i < xs.length := by omega
    have h2 : i < ys.length := by omega
    exact ⟨xs, ys, xs[i], ys[i], q.1, q.2, by simp [h1], by simp [h2]⟩
  · obtain ⟨T, x, z, h1, h2, h3, h4, h5⟩ := y
    exact ⟨T, x, z, h1, h2, h3, h4 xs q.1, h5 ys q.2⟩
theorem yd_pair {I : Hp} {vs ws : List V} {xs ys : List PyData} (d : DpAll K I vs xs) (e : DpAll K I ws ys) {i : Nat} {H H' : Hp} {v : V} (y : YPair (fun i => vs[i]?) (fun i => ws[i]?) i H v H') : YD K I (zipL xs ys) i H v H' := by
  obtain ⟨T, x, z, h1, h2, h3, h4, h5⟩ := y
  obtain ⟨p, h6, h7⟩ := DpAll.getV d h4
  obtain ⟨q, h8, h9⟩ := DpAll.getV e h5
  exact ⟨_, zipL_get xs ys i p q h6 h8, .inr ⟨T, _, _, h1, h2, h3, rfl, .cons h7 (.cons h9 .nil)⟩⟩
theorem walk_zl {I : Hp} {a b : Addr} {vs ws : List V} {xs ys : List PyData} (h : SqL K I a vs) (g : SqL K I b ws) (d : DpAll K I vs xs) (e : DpAll K I ws ys) : Walk (Itz K a b) (zipL xs ys).length (fun H => Sub I H) (YD K I (zipL xs ys)) :=
  (walk_zip (K := K) (a := a) (b := b) (xs := vs) (ys := ws) (n := (zipL xs ys).length) (by rw [zipL_len, DpAll.len d, DpAll.len e])).mono (fun H s => ⟨sqL_sub s h, sqL_sub s g⟩) fun i H v H' hi s y => yd_pair d e y
theorem walk_zt {I : Hp} {a b : Addr} {vs ws : List V} {xs ys : List PyData} (h : SqT K I a vs) (g : SqT K I b ws) (d : DpAll K I vs xs) (e : DpAll K I ws ys) : Walk (RZ.ItzT K a b) (zipL xs ys).length (fun H => Sub I H) (YD K I (zipL xs ys)) :=
  (walk_zipT (K := K) (a := a) (b := b) (xs := vs) (ys := ws) (n := (zipL xs ys).length) (by rw [zipL_len, DpAll.len d, DpAll.len e])).mono (fun H s => ⟨sqT_sub s h, sqT_sub s g⟩) fun i H v H' hi s y => yd_pair d e y

theorem s_itSeq {a : E} {x : Expr} (ha : PE X x (tE X.K XR W (ev cf cs a))) : PI X tg x (tI X.K XR W (evI cf cs (.seq a))) :=
  pi_imp (pi_seq ha) fun s H Q ⟨I, A, σ, m, st, sr, o⟩ => by
    have o : Out X.K XR (relI X.K) W s I A ((datP (ev cf cs a σ m)).bind fun x h1 => match seqOf x with
      | some xs => if sized xs then .ok xs h1 else .stuck
      | none => .stuck) Q := o
    rw [datP_bind] at o
    refine ⟨I, A, σ, m, st, sr, Out.bind o fun v m1 I1 A1 H1 y1 e1 st1 r1 o1 => ?_⟩
    obtain ⟨d, m2, I2, e2, st2, d2, o1⟩ := kept_ok st1 r1 o1
    cases d2 <;> first | exact o1.elim | skip
    · rename_i p vs ds h1 h2
      have o1 : Out X.K XR (relI X.K) W s I2 A1 (if sized ds then .ok ds m2 else .stuck) Q := o1
      split at o1
      · exact ⟨p, rfl, .inl ⟨⟨vs, sqL_sub st2.sub h1⟩, o1 I2 A1 H1 _ Ext.refl st2 (walk_l h1 h2)⟩⟩
      · exact o1.elim
    · rename_i p vs ds h1 h2
      have o1 : Out X.K XR (relI X.K) W s I2 A1 (if sized ds then .ok ds m2 else .stuck) Q := o1
      split at o1
      · exact ⟨p, rfl, .inr ⟨⟨vs, sqT_sub st2.sub h1⟩, o1 I2 A1 H1 _ Ext.refl st2 (walk_t h1 h2)⟩⟩
      · exact o1.elim
theorem s_itRng {a : E} {x : Expr} {p pos : Pos} (G0 : G C cf cs XR k X) (hg : Gl X "range") (hs : notStar x = true) (ha : PE X x (tE X.K XR W (ev cf cs a))) : PI X tg (.Call (.Name "range" p) [x] [] pos) (tI X.K XR W (evI cf cs (.rng a))) :=
  pi_imp (pi_range1 hg (G0.blt _ (by unfold builtNames; simp)) (pa_cons ha pa_nil (star_of hs)) (star_of hs)) fun s H Q ⟨I, A, σ, m, st, sr, o⟩ => by
    have o : Out X.K XR (relI X.K) W s I A ((dat (ev cf cs a σ m)).bind fun x h1 => match x with
      | .int n => if -two62 ≤ n && n < two62 then .ok (rngL n.toNat 0) h1 else .stuck
      | _ => .stuck) Q := o
    rw [dat_bind] at o
    refine ⟨I, A, σ, m, st, sr, Out.bind o fun v m1 I1 A1 H1 y1 e1 st1 r1 o1 => ?_⟩
    obtain ⟨d, n, o1⟩ := snap_bind st1 r1 o1
    cases d <;> first | exact o1.elim | skip
    rename_i i
    have o1 : Out X.K XR (relI X.K) W s I1 A1 (if -two62 ≤ i && i < two62 then .ok (rngL i.toNat 0) m1 else .stuck) Q := o1
    split at o1
    · rename_i hi
      simp only [Bool.and_eq_true, decide_eq_true_eq] at hi
      unfold two62 at hi
      exact ⟨i, by rw [n.intv], by omega, by omega, o1 I1 A1 H1 _ Ext.refl st1 walk_r⟩
    · exact o1.elim
theorem s_itRng2 {a b : E} {x y : Expr} {p pos : Pos} (G0 : G C cf cs XR k X) (hg : Gl X "range") (hs : notStar x = true) (hs2 : notStar y = true) (ha : PE X x (tE X.K XR W (ev cf cs a))) (hb : PE X y (tE X.K XR W (ev cf cs b))) :
    PI X tg (.Call (.Name "range" p) [x, y] [] pos) (tI X.K XR W (evI cf cs (.rng2 a b))) :=
  pi_imp (pi_range2 hg (G0.blt _ (by unfold builtNames; simp)) (pa_cons ha (pa_cons hb pa_nil (star_of hs2)) (star_of hs)) (by rw [star_of hs, star_of hs2]; rfl) (star_of hs2)) fun s H Q ⟨I, A, σ, m, st, sr, o⟩ => by
    have o : Out X.K XR (relI X.K) W s I A ((dat (ev cf cs a σ m)).bind fun x h1 => (dat (ev cf cs b σ h1)).bind fun y h2 => match x, y with
      | .int m, .int n => if -two62 ≤ m && m < two62 && -two62 ≤ n && n < two62 then .ok (rngL (n - m).toNat m) h2 else .stuck
      | _, _ => .stuck) Q := o
    rw [dat_bind] at o
    refine ⟨I, A, σ, m, st, sr, Out.bind o fun v m1 I1 A1 H1 y1 e1 st1 r1 o1 => ?_⟩
    obtain ⟨d, n, o1⟩ := snap_bind st1 r1 o1
    rw [dat_bind] at o1
    refine ⟨I1, A1, σ, m1, st1, sr.mono e1, Out.bind o1 fun w m2 I2 A2 H2 y2 e2 st2 r2 o2 => ?_⟩
    obtain ⟨e, n2, o2⟩ := snap_bind st2 r2 o2
    cases d <;> cases e <;> first | exact o2.elim | skip
    rename_i i _ j
    have o2 : Out X.K XR (relI X.K) W s I2 A2 (if -two62 ≤ i && i < two62 && -two62 ≤ j && j < two62 then .ok (rngL (j - i).toNat i) m2 else .stuck) Q := o2
    split at o2
    · rename_i hi
      simp only [Bool.and_eq_true, decide_eq_true_eq] at hi
      unfold two62 at hi
      exact ⟨i, j, by rw [n.intv, n2.intv], by omega, o2 I2 A2 H2 _ Ext.refl st2 walk_r⟩
    · exact o2.elim
theorem s_itEnum {a : E} {x : Expr} {p pos tpos : Pos} {elts : List Expr} {kk : Nat} (G0 : G C cf cs XR k X) (hg : Gl X "enumerate") (hs : notStar x = true) (ha : PE X x (tE X.K XR W (ev cf cs a))) :
    PI X (.Tuple elts kk tpos) (.Call (.Name "enumerate" p) [x] [] pos) (tI X.K XR W (evI cf cs (.enum a))) :=
  pi_imp (pi_enum hg (G0.blt _ (by unfold builtNames; simp)) (pa_cons ha pa_nil (star_of hs)) (star_of hs)) fun s H Q ⟨I, A, σ, m, st, sr, o⟩ => by
    have o : Out X.K XR (relI X.K) W s I A ((datP (ev cf cs a σ m)).bind fun x h1 => match x with
      | .list xs => if sized xs then .ok (enumL xs 0) h1 else .stuck
      | _ => .stuck) Q := o
    rw [datP_bind] at o
    refine ⟨I, A, σ, m, st, sr, Out.bind o fun v m1 I1 A1 H1 y1 e1 st1 r1 o1 => ?_⟩
    obtain ⟨d, m2, I2, e2, st2, d2, o1⟩ := kept_ok st1 r1 o1
    cases d2 <;> first | exact o1.elim | skip
    rename_i p vs ds h1 h2
    have o1 : Out X.K XR (relI X.K) W s I2 A1 (if sized ds then .ok (enumL ds 0) m2 else .stuck) Q := o1
    split at o1
    · exact ⟨p, vs, rfl, sqL_sub st2.sub h1, o1 I2 A1 H1 _ Ext.refl st2 (walk_e h1 h2)⟩
    · exact o1.elim
theorem s_itZip {a b : E} {x y : Expr} {p pos tpos : Pos} {elts : List Expr} {kk : Nat} (G0 : G C cf cs XR k X) (hg : Gl X "zip") (hs : notStar x = true) (hs2 : notStar y = true) (ha : PE X x (tE X.K XR W (ev cf cs a))) (hb : PE X y (tE X.K XR W (ev cf cs b))) :
    PI X (.Tuple elts kk tpos) (.Call (.Name "zip" p) [x, y] [] pos) (tI X.K XR W (evI cf cs (.zip a b))) :=
  pi_imp (RZ.pi_zipA hg (G0.blt _ (by unfold builtNames; simp)) (pa_cons ha (pa_cons hb pa_nil (star_of hs2)) (star_of hs)) (star_of hs) (by rw [star_of hs2]; rfl)) fun s H Q ⟨I, A, σ, m, st, sr, o⟩ => by
    have o : Out X.K XR (relI X.K) W s I A ((datP (ev cf cs a σ m)).bind fun x h1 => (datP (ev cf cs b σ h1)).bind fun y h2 => match x, y with
      | .list xs, .list ys => if sized xs && sized ys then .ok (zipL xs ys) h2 else .stuck
      | .tuple xs, .tuple ys => if sized xs && sized ys then .ok (zipL xs ys) h2 else .stuck
      | _, _ => .stuck) Q := o
    rw [datP_bind] at o
    refine ⟨I, A, σ, m, st, sr, Out.bind o fun v m1 I1 A1 H1 y1 e1 st1 r1 o1 => ?_⟩
    obtain ⟨d, m2, I2, e2, st2, d2, o1⟩ := kept_ok st1 r1 o1
    rw [datP_bind] at o1
    refine ⟨I2, A1, σ, m2, st2, sr.mono (e1.trans e2), Out.bind o1 fun w m3 I3 A3 H3 y3 e3 st3 r3 o3 => ?_⟩
    obtain ⟨d', m4, I4, e4, st4, d4, o3⟩ := kept_ok st3 r3 o3
    have d2' := dp_sub (e3.trans e4).sub d2
    cases d2' <;> cases d4 <;> first | exact o3.elim | skip
    · rename_i p vs ds h1 h2 _ q ws es h3 h4
      have o3 : Out X.K XR (relI X.K) W s I4 A3 (if sized ds && sized es then .ok (zipL ds es) m4 else .stuck) Q := o3
      split at o3
      · exact ⟨p, q, vs, ws, rfl, .inl ⟨sqL_sub st4.sub h1, sqL_sub st4.sub h3, o3 I4 A3 H3 _ Ext.refl st4 (walk_zl h1 h3 h2 h4)⟩⟩
      · exact o3.elim
    · rename_i p vs ds h1 h2 _ q ws es h3 h4
      have o3 : Out X.K XR (relI X.K) W s I4 A3 (if sized ds && sized es then .ok (zipL ds es) m4 else .stuck) Q := o3
      split at o3
      · exact ⟨p, q, vs, ws, rfl, .inr ⟨sqT_sub st4.sub h1, sqT_sub st4.sub h3, o3 I4 A3 H3 _ Ext.refl st4 (walk_zt h1 h3 h2 h4)⟩⟩
      · exact o3.elim
end
end Sd

/-! Sd: facts of itertools.combinations. -/
namespace Sd.CF
open PySem PySem.Spec
end Sd.CF
namespace Sd.CF
open PySem PySem.Spec
theorem mro_c : mroOf (.type "itertools.combinations") = pure [.type "itertools.combinations", .type "object"] := by
  rw [mroOf_type]
  kernel_rfl
theorem look_new : typeLookup (.type "itertools.combinations") "__new__" = pure (some (.builtin "itertools.combinations.__new__")) := by
  rw [typeLookup_type, builtinLookup_eq_fast]
  kernel_rfl
theorem sub_c : isSubtype (.type "itertools.combinations") (.type "itertools.combinations") = pure true := by
  rw [isSubtype_type]
  kernel_rfl
theorem slot_next : Slot "itertools.combinations" "__next__" "itertools.combinations.__next__" := by
  refine .of (owner := "itertools.combinations") (n := "__next__") ?_ (by decide +kernel) (by decide +kernel) (by decide +kernel) ?_ sub_c
  · rw [typeLookup_type, builtinLookup_eq_fast]
    kernel_rfl
  · first
    | exact .inl (by decide +kernel)
    | exact .inr (by decide +kernel)
theorem slot_iter : Slot "itertools.combinations" "__iter__" "itertools.combinations.__iter__" := by
  refine .of (owner := "itertools.combinations") (n := "__iter__") ?_ (by decide +kernel) (by decide +kernel) (by decide +kernel) ?_ sub_c
  · rw [typeLookup_type, builtinLookup_eq_fast]
    kernel_rfl
  · first
    | exact .inl (by decide +kernel)
    | exact .inr (by decide +kernel)
theorem entry_next : entryFor table "itertools.combinations.__next__" = some Builtin.«itertools.combinations.__next__» := entryFor_of_tree (by kernel_rfl)
theorem entry_new : entryFor table "itertools.combinations.__new__" = some Builtin.«itertools.combinations.__new__» := entryFor_of_tree (by kernel_rfl)
theorem entry_iter : entryFor table "itertools.combinations.__iter__" = some Builtin.«dict_keyiterator.__iter__» := by
  refine entryFor_alias (id' := "dict_keyiterator.__iter__") (by kernel_rfl) ?_ (by decide +kernel) (by kernel_rfl)
  first
  | rfl
  | decide +kernel
  | (unfold String.splitOn; simp +decide [String.splitOnAux])
theorem owner_c : Manifest.owners.lookup (String.ofList "itertools.combinations".toList) = some Manifest.sig_itertools_combinations := by kernel_rfl
end Sd.CF

/-! Sd: facts of itertools.combinations, the calls. -/
namespace Sd.CF
open PySem PySem.Spec
theorem owner2 : Manifest.owners.lookup (String.ofList ("itertools.combinations".toList.reverse).reverse) = some Manifest.sig_itertools_combinations := by kernel_rfl
theorem args_next (a : Value) : argsOk "itertools.combinations.__next__" ⟨[a], []⟩ := by
  unfold argsOk
  rw [signature?_of (id := "itertools.combinations.__next__") (n := "__next__".toList.reverse) (o := "itertools.combinations".toList.reverse) (by kernel_rfl) owner2]
  kernel_rfl
theorem args_iter (a : Value) : argsOk "itertools.combinations.__iter__" ⟨[a], []⟩ := by
  unfold argsOk
  rw [signature?_of (id := "itertools.combinations.__iter__") (n := "__iter__".toList.reverse) (o := "itertools.combinations".toList.reverse) (by kernel_rfl) owner2]
  kernel_rfl
theorem slot_init : Slot "itertools.combinations" "__init__" "object.__init__" := by
  refine .of (owner := "object") (n := "__init__") ?_ (by decide +kernel) (by decide +kernel) (by decide +kernel) ?_ ?_
  · rw [typeLookup_type, builtinLookup_eq_fast]
    kernel_rfl
  · first
    | exact .inl (by decide +kernel)
    | exact .inr (by decide +kernel)
  · rw [isSubtype_type]
    kernel_rfl
theorem called_c : TypeCalled "itertools.combinations" "itertools.combinations.__new__" "object.__init__" := by
  refine ⟨by decide +kernel, by decide +kernel, ⟨_, _, mro_c⟩, madeBy_type mro_c look_new (by decide +kernel), by decide +kernel, sub_c, slot_init⟩
theorem typeCall_c (a b : Value) : checkTypeCall "itertools.combinations" ⟨[a, b], []⟩ = pure () := by kernel_rfl
theorem newCall_c (a b : Value) : checkBuiltinCall "itertools.combinations.__new__" ⟨[.type "itertools.combinations", a, b], []⟩ = pure () := by kernel_rfl
theorem plain_new : plainId "itertools.combinations.__new__" = true := by decide +kernel
end Sd.CF

/-! Sd: itertools.combinations of a range, made. -/
namespace Sd.CF
open L2 PySem PySem.Spec PyProof.Rows
open PySem.Builtin.Itertools PySem.W
section
variable {prog : Program} {w : World} {A : Around} {E : Value → Shared → Prop} {s : Shared} {r : Addr} {m : Int} {t u v : Tok}
theorem code_new {k : Int} {tk0 : Tok} {Q₁ : Value → Shared → Prop} (hh : A.handled = none) (hr : IsRange s.heap r 0 m 1 t u v) (hm : 0 ≤ m) (hm2 : m ≤ 8) (hk : 0 ≤ k) (hk2 : k ≤ 8)
    (h : ∀ (h' : Heap) (tk : Nat) (acc : Array Value), (∀ b o, s.heap.get? b = some o → h'.get? b = some o) → ItemsOf (fun i v => ∃ t, v = .int (0 + i * 1) t) acc m.toNat →
      Q₁ (.ref (h'.objs.size + 1)) { s with heap := (h'.push { cls := .type "tuple", data := .seq acc }).push { cls := .type "itertools.combinations", data := .fields ([.ref h'.objs.size, rawInt (if k.toNat > m.toNat then 2 else 0), .none] ++ (List.range k.toNat).map fun (i : Nat) => rawInt i).toArray }, toks := tk }) :
    codeAny (model prog w) A (.call (.builtin "itertools.combinations.__new__") ⟨[.type "itertools.combinations", .ref r, .int k tk0], []⟩) (wants Q₁ E) s := by
  refine codeAny_of_tree ?_
  show wpAny _ A.in1 (do checkBuiltinCall "itertools.combinations.__new__" ⟨[.type "itertools.combinations", .ref r, .int k tk0], []⟩; again (.builtin "itertools.combinations.__new__" ⟨[.type "itertools.combinations", .ref r, .int k tk0], []⟩)) _ _ s
  refine wpAny_bind (wpAny_of_eq (newCall_c _ _) (wpAny_pure ⟨plainId_quiet plain_new _, codeAny_builtin entry_new ?_⟩))
  rw [Around.under_plainId plain_new _]
  unfold Builtin.«itertools.combinations.__new__»
  k_delta "poolAndR"
  dsimp only
  have hsub := sub_c
  have hh1 : A.in1.handled = none := hh
  have hn : Builtin.Range.rangeSize 0 m 1 = m.toNat := by
    rw [rangeSize_nat]
    rw [Int.sub_zero]
  have hcat : ("itertools." ++ "combinations" : String) = "itertools.combinations" := by rfl
  have hbind : itBindNamed "combinations" ["iterable", "r"] 2 2 [Value.ref r, Value.int k tk0] [] = pure [some (.ref r), some (.int k tk0)] := by
    unfold itBindNamed
    simp [List.zipIdx]
  have f1 := PySem.AutoSeq1.idx_int
  wp_walk using collect_range (A := A.in1) hh1 hr (small_one (by omega) (by omega) (by omega) (by omega)) hn (by omega)
  rw [hcat, sub_c]
  refine wpAny_pure ?_
  wp_walk using collect_range (A := A.in1) hh1 hr (small_one (by omega) (by omega) (by omega) (by omega)) hn (by omega)
  have nb : ¬ ((decide (k < -2 ^ 63) || decide (k ≥ 2 ^ 63)) = true) := by
    rw [Bool.or_eq_true, decide_eq_true_eq, decide_eq_true_eq]
    omega
  rw [if_neg nb]
  refine wpAny_pure ?_
  refine wpAny_bind (collect_range (A := A.in1) hh1 hr (small_one (by omega) (by omega) (by omega) (by omega)) hn (by omega) fun h' tk acc hk' hacc => ?_)
  have nk : ¬ (k < 0) := by omega
  have nt : ¬ (itTooMany k = true) := by
    unfold itTooMany
    rw [decide_eq_true_eq]
    omega
  rw [if_neg nk, if_neg nt]
  have hl : acc.toList.length = m.toNat := by rw [Array.length_toList]; exact hacc.1
  refine wpAny_bind (wpAny_newTuple ?_ (by rw [hl]; show m.toNat ≤ sizeLine; rw [sizeLine_eq]; omega))
  have ea : acc.toList.toArray = acc := by simp
  rw [ea]
  refine wpAny_pure ?_
  dsimp only
  refine wpAny_bind ?_
  unfold itNewRecord
  have nd : typeHasDict (.type "itertools.combinations") = false := by decide +kernel
  rw [nd]
  rw [if_pos (show (!false) = true from rfl)]
  refine wpAny_newObj_type ?_ ?_
  · rw [hl, Heap.size_push]
    exact wpAny_pure (h h' tk acc hk' hacc)
  · show (([Value.ref h'.objs.size, rawInt (if k.toNat > acc.toList.length then 2 else 0), Value.none] ++ List.map (fun i => rawInt ((i : Nat) : Int)) (List.range k.toNat)).toArray).size ≤ _
    rw [List.size_toArray, List.length_append, List.length_map, List.length_range]
    have := sizeLine_eq
    simp only [List.length_cons, List.length_nil]
    omega
theorem call_comb {k : Int} {tk0 : Tok} {Q : Value → Shared → Prop} (hh : A.handled = none) (hr : IsRange s.heap r 0 m 1 t u v) (hm : 0 ≤ m) (hm2 : m ≤ 8) (hk : 0 ≤ k) (hk2 : k ≤ 8)
    (h : ∀ (h' : Heap) (tk : Nat) (acc : Array Value), (∀ b o, s.heap.get? b = some o → h'.get? b = some o) → ItemsOf (fun i v => ∃ t, v = .int (0 + i * 1) t) acc m.toNat →
      Q (.ref (h'.objs.size + 1)) { s with heap := (h'.push { cls := .type "tuple", data := .seq acc }).push { cls := .type "itertools.combinations", data := .fields ([.ref h'.objs.size, rawInt (if k.toNat > m.toNat then 2 else 0), .none] ++ (List.range k.toNat).map fun (i : Nat) => rawInt i).toArray }, toks := tk }) :
    wpAny (model prog w) A (call (.type "itertools.combinations") [.ref r, .int k tk0]) Q E s := by
  refine callType_codes (Q₁ := fun obj s₁ => s₁.TypeIs obj "itertools.combinations" ∧ Q obj s₁) called_c (typeCall_c _ _) F.entry_object_init (code_new (A := A.in1) hh hr hm hm2 hk hk2 fun h' tk acc hk' hacc => ?_) fun obj s₁ h₁ => ?_
  · have e := Heap.get?_push_size (h'.push { cls := .type "tuple", data := .seq acc }) (o := { cls := .type "itertools.combinations", data := .fields ([.ref h'.objs.size, rawInt (if k.toNat > m.toNat then 2 else 0), .none] ++ (List.range k.toNat).map fun (i : Nat) => rawInt i).toArray }) rfl
    rw [Heap.size_push] at e
    exact ⟨⟨_, e, rfl⟩, h h' tk acc hk' hacc⟩
  · exact ⟨h₁.1, F.args_object_init_3 obj _ _, object_init_meets called_c.init.lookup called_c.made (by decide) prog w A.in1 _ s₁ ⟨h₁.1, rfl, h₁.2⟩⟩
end
end Sd.CF

/-! Sd: itertools.combinations, walked. -/
namespace Sd.CF
open L2 PySem PySem.Spec PyProof.Rows
open PySem.Builtin.Itertools PySem.W
def combFs (P : Addr) (st : Int) (old : Value) (is : List Nat) : Array Value := ([.ref P, rawInt st, old] ++ is.map fun (i : Nat) => rawInt i).toArray
abbrev IsComb (h : Heap) (a P : Addr) (st : Int) (old : Value) (is : List Nat) : Prop := h.get? a = some { cls := .type "itertools.combinations", dict := none, data := .fields (combFs P st old is), slots := #[] }
section
variable {prog : Program} {w : World} {A : Around} {E : Value → Shared → Prop} {s : Shared} {it P : Addr} {is : List Nat} {old : Value} {acc : Array Value} {n : Nat}
theorem nums_of {st : Int} {Q : List Nat → Shared → Prop} {M : Model} (hit : IsComb s.heap it P st old is) (q : Q is s) : wpAny M A (itNumbersFrom (.ref it) 3) Q E s := by
  unfold itNumbersFrom
  refine wpAny_bind (wpAny_load hit ?_)
  dsimp only
  refine wpAny_pure ?_
  have e : ((combFs P st old is).toList.drop 3).map (fun | .int n _ => n.toNat | _ => 0) = is := by
    unfold combFs
    simp only [List.cons_append, List.nil_append, List.drop_succ_cons, List.drop_zero, List.map_map]
    refine (List.map_congr_left fun i _ => ?_).trans (List.map_id is)
    rfl
  exact (congrArg (fun z => Q z s) e).mpr q
theorem comb_get0 {st : Int} : (combFs P st old is)[0]? = some (.ref P) := rfl
theorem comb_get1 {st : Int} : (combFs P st old is)[1]? = some (rawInt st) := rfl
theorem comb_get2 {st : Int} : (combFs P st old is)[2]? = some old := rfl
theorem comb_set1 {st st' : Int} : (combFs P st old is).setIfInBounds 1 (rawInt st') = combFs P st' old is := rfl
theorem comb_set2 {st : Int} {x : Value} : (combFs P st old is).setIfInBounds 2 x = combFs P st x is := rfl
/-- a row is handed out -/
theorem hand_out {st : Int} {Q : Value → Shared → Prop} (hP : IsTup s.heap P acc) (hne : P ≠ it) (hit : IsComb s.heap it P st old is) (hz : is.length ≤ 1000)
    (q : ∀ h', IsComb h' it P st (.ref s.heap.objs.size) is → h'.get? s.heap.objs.size = some { cls := .type "tuple", data := .seq (is.map fun i => acc.getD i .none).toArray } → h'.objs.size = s.heap.objs.size + 1 →
      (∀ b o, b ≠ it → s.heap.get? b = some o → h'.get? b = some o) → Q (.ref s.heap.objs.size) { s with heap := h' }) :
    wpAny (model prog w) A ((do
      let items ← itPoolItems (.ref P)
      newTuple (is.map fun i => items.getD i .none)) >>= fun result => field (.ref it) 2 >>= fun before => setField (.ref it) 2 result >>= fun _ => letGo [before] [result] >>= fun _ => ret result) (fun fin s' => ∃ v, fin = .done (.ret v) ∧ Q v s') E s := by
  obtain ⟨oP, hoP, hcP, nP, hdP⟩ := hP
  refine wpAny_bind ?_
  refine wpAny_bind ?_
  unfold itPoolItems
  refine wpAny_bind (wpAny_seqItems hoP hdP ?_)
  refine wpAny_pure ?_
  refine wpAny_newTuple ?_ (by rw [List.length_map]; have := sizeLine_eq; omega)
  have hit1 : IsComb (s.heap.push { cls := .type "tuple", data := .seq (is.map fun i => acc.getD i .none).toArray }) it P st old is := Heap.get?_push_of_some _ hit
  refine wpAny_bind (wpAny_field hit1 rfl comb_get2 ?_)
  refine wpAny_bind (wpAny_setField_rec hit1 (by show 2 < (combFs P st old is).size; unfold combFs; simp) fun h2 e2 sb => ?_)
  rw [comb_set2] at e2
  refine wpAny_bind (wpAny_letGo (wpAny_pure ⟨_, rfl, ?_⟩))
  have hlt : it < s.heap.objs.size := Heap.lt_size hit
  refine q h2 e2 ?_ ?_ fun b o hb ho => ?_
  · exact (sb.2 _ (Nat.ne_of_gt hlt)).trans (Heap.get?_push_size _ rfl)
  · rw [sb.1]
    exact Heap.size_push ..
  · exact (sb.2 b hb).trans (Heap.get?_push_of_some _ ho)
theorem comb_next_first {Q : Value → Shared → Prop} (hP : IsTup s.heap P acc) (hne : P ≠ it) (hit : IsComb s.heap it P 0 old is) (hz : is.length ≤ 1000)
    (q : ∀ h', IsComb h' it P 1 (.ref s.heap.objs.size) is → h'.get? s.heap.objs.size = some { cls := .type "tuple", data := .seq (is.map fun i => acc.getD i .none).toArray } → h'.objs.size = s.heap.objs.size + 1 →
      (∀ b o, b ≠ it → s.heap.get? b = some o → h'.get? b = some o) → Q (.ref s.heap.objs.size) { s with heap := h' }) :
    wpAny (model prog w) A (Builtin.«itertools.combinations.__next__» ⟨[.ref it], []⟩) (fun fin s' => ∃ v, fin = .done (.ret v) ∧ Q v s') E s := by
  unfold Builtin.«itertools.combinations.__next__»
  k_delta "nextByIndices"
  dsimp only
  refine wpAny_bind (wpAny_of_eq (a := (Value.ref it, [])) rfl ?_)
  dsimp only
  refine wpAny_bind (wpAny_field hit rfl comb_get0 ?_)
  refine wpAny_bind (nums_of hit ?_)
  refine wpAny_bind ?_
  unfold itIntField
  refine wpAny_bind (wpAny_field hit rfl comb_get1 ?_)
  refine wpAny_pure ?_
  refine wpAny_bind (wpAny_setField_rec hit (by show 1 < (combFs P 0 old is).size; unfold combFs; simp) fun h1 e1 sb => ?_)
  rw [comb_set1] at e1
  k_delta "pick"
  have hP1 : IsTup h1 P acc := by
    obtain ⟨oP, hoP, r⟩ := hP
    exact ⟨oP, (sb.2 P hne).trans hoP, r⟩
  exact hand_out (s := { s with heap := h1 }) hP1 hne e1 hz fun h' a b c d => by
    have e : h1.objs.size = s.heap.objs.size := sb.1
    show Q (.ref h1.objs.size) _
    have a : IsComb h' it P 1 (.ref h1.objs.size) is := a
    have b : h'.get? h1.objs.size = _ := b
    have c : h'.objs.size = h1.objs.size + 1 := c
    rw [e] at a b c ⊢
    exact q h' a b c fun x o hx ho => d x o hx ((sb.2 x hx).trans ho)
/-- the step of the model is ours -/
theorem comb_next_more {is2 : List Nat} {Q : Value → Shared → Prop} (hP : IsTup s.heap P acc) (hne : P ≠ it) (hit : IsComb s.heap it P 1 old is) (hs : nextC acc.size is = some is2) (hz : is2.length ≤ 1000)
    (q : ∀ h', IsComb h' it P 1 (.ref s.heap.objs.size) is2 → h'.get? s.heap.objs.size = some { cls := .type "tuple", data := .seq (is2.map fun i => acc.getD i .none).toArray } → h'.objs.size = s.heap.objs.size + 1 →
      (∀ b o, b ≠ it → s.heap.get? b = some o → h'.get? b = some o) → Q (.ref s.heap.objs.size) { s with heap := h' }) :
    wpAny (model prog w) A (Builtin.«itertools.combinations.__next__» ⟨[.ref it], []⟩) (fun fin s' => ∃ v, fin = .done (.ret v) ∧ Q v s') E s := by
  unfold Builtin.«itertools.combinations.__next__»
  k_delta "nextByIndices"
  dsimp only
  refine wpAny_bind (wpAny_of_eq (a := (Value.ref it, [])) rfl ?_)
  dsimp only
  refine wpAny_bind (wpAny_field hit rfl comb_get0 ?_)
  refine wpAny_bind (nums_of hit ?_)
  refine wpAny_bind ?_
  unfold itIntField
  refine wpAny_bind (wpAny_field hit rfl comb_get1 ?_)
  refine wpAny_pure ?_
  obtain ⟨oP, hoP, hcP, nP, hdP⟩ := id hP
  show wpAny _ _ (itPoolItems (.ref P) >>= _) _ _ _
  refine wpAny_bind ?_
  unfold itPoolItems
  refine wpAny_bind (wpAny_seqItems hoP hdP ?_)
  refine wpAny_pure ?_
  split
  rotate_left
  · rename_i heq
    have heq : nextC acc.size is = none := heq
    rw [hs] at heq
    cases heq
  rename_i next heq
  have heq : nextC acc.size is = some next := heq
  rw [hs] at heq
  cases heq
  refine wpAny_bind ?_
  unfold itSetNumbersFrom
  dsimp only
  refine wpAny_updateFields hit rfl ?_ ?_
  · have ef : (s.heap.update it (Obj.mapFields fun fs => fs.extract 0 3 ++ (is2.map fun (n : Nat) => rawInt n).toArray)).get? it = some { cls := .type "itertools.combinations", dict := none, data := .fields (combFs P 1 old is2), slots := #[] } := by
      have := Heap.get?_update_self (Obj.mapFields fun fs => fs.extract 0 3 ++ (is2.map fun (n : Nat) => rawInt n).toArray) hit rfl
      rw [this]
      have e3 : (combFs P 1 old is).extract 0 3 ++ (is2.map fun (n : Nat) => rawInt n).toArray = combFs P 1 old is2 := by
        unfold combFs
        simp
      show some ({ cls := .type "itertools.combinations", dict := none, data := .fields ((combFs P 1 old is).extract 0 3 ++ (is2.map fun (n : Nat) => rawInt n).toArray), slots := #[] } : Obj) = _
      rw [e3]
    have sb : ∀ b, b ≠ it → (s.heap.update it (Obj.mapFields fun fs => fs.extract 0 3 ++ (is2.map fun (n : Nat) => rawInt n).toArray)).get? b = s.heap.get? b := fun b hb => Heap.get?_update_other _ _ (Ne.symm hb)
    generalize hh1 : s.heap.update it (Obj.mapFields fun fs => fs.extract 0 3 ++ (is2.map fun (n : Nat) => rawInt n).toArray) = h1 at ef sb
    have es : h1.objs.size = s.heap.objs.size := by rw [← hh1]; exact Heap.size_update ..
    k_delta "pick"
    have hP1 : IsTup h1 P acc := ⟨oP, (sb P hne).trans hoP, hcP, nP, hdP⟩
    exact hand_out (s := { s with heap := h1 }) hP1 hne ef hz fun h' a b c d => by
      show Q (.ref h1.objs.size) _
      have a : IsComb h' it P 1 (.ref h1.objs.size) is2 := a
      have b : h'.get? h1.objs.size = _ := b
      have c : h'.objs.size = h1.objs.size + 1 := c
      rw [es] at a b c ⊢
      exact q h' a b c fun x o hx ho => d x o hx ((sb x hx).trans ho)
  · have e3 : (combFs P 1 old is).extract 0 3 ++ (is2.map fun (n : Nat) => rawInt n).toArray = combFs P 1 old is2 := by
      unfold combFs
      simp
    show ((combFs P 1 old is).extract 0 3 ++ (is2.map fun (n : Nat) => rawInt n).toArray).size ≤ _
    rw [e3]
    unfold combFs
    rw [List.size_toArray, List.length_append, List.length_map]
    have := sizeLine_eq
    simp only [List.length_cons, List.length_nil]
    omega
/-- the end -/
theorem stop_ok {α : Type} {M : Model} {A : Around} {E : Value → Shared → Prop} {s : Shared} {Q : α → Shared → Prop} (hh : A.handled = none)
    (hE : ∀ h' e, (∀ b o, s.heap.get? b = some o → h'.get? b = some o) → (∃ o, h'.get? e = some o ∧ o.cls = .type "StopIteration") → E (.ref e) { s with heap := h' }) : wpAny M A (itStop : Sem α) Q E s := by
  unfold itStop
  refine wpAny_bind ?_
  simp only [newExc, newTuple]
  refine wpAny_bind (wpAny_newObj_type ?_ (by size_fits))
  refine wpAny_bind (m := firstArgMember _ _) (wpAny_of_eq (a := Value.none) ?_ ?_)
  · first
    | rfl
    | (simp only [firstArgMember]; rfl)
  refine wpAny_newObj_type ?_ (by size_fits)
  simp only [raiseNew]
  refine wpAny_bind (wpAny_handled ?_)
  rw [hh]
  show wpAny M A (throw _ : Sem α) _ _ _
  exact wpAny_throw (hE _ _ (fun b o ho => Heap.get?_push_of_some _ (Heap.get?_push_of_some _ ho)) ⟨_, Heap.get?_push_size _ rfl, rfl⟩)
theorem comb_end_done {Q : Fin → Shared → Prop} (hh : A.handled = none) (hit : IsComb s.heap it P 2 old is)
    (hE : ∀ h' e, (∀ b o, s.heap.get? b = some o → h'.get? b = some o) → (∃ o, h'.get? e = some o ∧ o.cls = .type "StopIteration") → E (.ref e) { s with heap := h' }) :
    wpAny (model prog w) A (Builtin.«itertools.combinations.__next__» ⟨[.ref it], []⟩) Q E s := by
  unfold Builtin.«itertools.combinations.__next__»
  k_delta "nextByIndices"
  dsimp only
  refine wpAny_bind (wpAny_of_eq (a := (Value.ref it, [])) rfl ?_)
  dsimp only
  refine wpAny_bind (wpAny_field hit rfl comb_get0 ?_)
  refine wpAny_bind (nums_of hit ?_)
  refine wpAny_bind ?_
  unfold itIntField
  refine wpAny_bind (wpAny_field hit rfl comb_get1 ?_)
  refine wpAny_pure ?_
  show wpAny _ _ (rule _ >>= _) _ _ _
  exact wpAny_bind (wpAny_rule (stop_ok hh hE))
theorem comb_end_last {Q : Fin → Shared → Prop} (hh : A.handled = none) (hP : IsTup s.heap P acc) (hit : IsComb s.heap it P 1 old is) (hs : nextC acc.size is = none)
    (hE : ∀ h' e, (∀ b o, b ≠ it → s.heap.get? b = some o → h'.get? b = some o) → (∃ o, h'.get? e = some o ∧ o.cls = .type "StopIteration") → E (.ref e) { s with heap := h' }) :
    wpAny (model prog w) A (Builtin.«itertools.combinations.__next__» ⟨[.ref it], []⟩) Q E s := by
  unfold Builtin.«itertools.combinations.__next__»
  k_delta "nextByIndices"
  dsimp only
  refine wpAny_bind (wpAny_of_eq (a := (Value.ref it, [])) rfl ?_)
  dsimp only
  refine wpAny_bind (wpAny_field hit rfl comb_get0 ?_)
  refine wpAny_bind (nums_of hit ?_)
  refine wpAny_bind ?_
  unfold itIntField
  refine wpAny_bind (wpAny_field hit rfl comb_get1 ?_)
  refine wpAny_pure ?_
  obtain ⟨oP, hoP, hcP, nP, hdP⟩ := id hP
  show wpAny _ _ (itPoolItems (.ref P) >>= _) _ _ _
  refine wpAny_bind ?_
  unfold itPoolItems
  refine wpAny_bind (wpAny_seqItems hoP hdP ?_)
  refine wpAny_pure ?_
  split
  · rename_i next heq
    have heq : nextC acc.size is = some next := heq
    rw [hs] at heq
    cases heq
  · refine wpAny_bind (wpAny_setField_rec hit (by show 1 < (combFs P 1 old is).size; unfold combFs; simp) fun h1 e1 sb => ?_)
    exact stop_ok hh fun h' e k o => hE h' e (fun b ob hb ho => k b ob ((sb.2 b hb).trans ho)) o
/-! ### next(..) -/
theorem ty_c {st : Int} (hit : IsComb s.heap it P st old is) : s.TypeIs (.ref it) "itertools.combinations" := ⟨_, hit, rfl⟩
theorem pyNext_first {Q : Option Value → Shared → Prop} (hP : IsTup s.heap P acc) (hne : P ≠ it) (hit : IsComb s.heap it P 0 old is) (hz : is.length ≤ 1000)
    (q : ∀ h', IsComb h' it P 1 (.ref s.heap.objs.size) is → h'.get? s.heap.objs.size = some { cls := .type "tuple", data := .seq (is.map fun i => acc.getD i .none).toArray } → h'.objs.size = s.heap.objs.size + 1 →
      (∀ b o, b ≠ it → s.heap.get? b = some o → h'.get? b = some o) → Q (some (.ref s.heap.objs.size)) { s with heap := h' }) : wpAny (model prog w) A (pyNext (.ref it)) Q E s := by
  have T := ty_c hit
  unfold pyNext
  refine wpAny_bind (wpAny_attempt (wpAny_callSpecial?_slot (name := Str.ofString "__next__") T slot_next (wpAny_call_entry slot_next T entry_next ?_ (args_next _))))
  exact comb_next_first hP hne hit hz fun h' a b c d => wpAny_pure (q h' a b c d)
theorem pyNext_more {is2 : List Nat} {Q : Option Value → Shared → Prop} (hP : IsTup s.heap P acc) (hne : P ≠ it) (hit : IsComb s.heap it P 1 old is) (hs : nextC acc.size is = some is2) (hz : is2.length ≤ 1000)
    (q : ∀ h', IsComb h' it P 1 (.ref s.heap.objs.size) is2 → h'.get? s.heap.objs.size = some { cls := .type "tuple", data := .seq (is2.map fun i => acc.getD i .none).toArray } → h'.objs.size = s.heap.objs.size + 1 →
      (∀ b o, b ≠ it → s.heap.get? b = some o → h'.get? b = some o) → Q (some (.ref s.heap.objs.size)) { s with heap := h' }) : wpAny (model prog w) A (pyNext (.ref it)) Q E s := by
  have T := ty_c hit
  unfold pyNext
  refine wpAny_bind (wpAny_attempt (wpAny_callSpecial?_slot (name := Str.ofString "__next__") T slot_next (wpAny_call_entry slot_next T entry_next ?_ (args_next _))))
  exact comb_next_more hP hne hit hs hz fun h' a b c d => wpAny_pure (q h' a b c d)
theorem pyNext_done {Q : Option Value → Shared → Prop} (hh : A.handled = none) (hit : IsComb s.heap it P 2 old is)
    (q : ∀ h', (∀ b o, b ≠ it → s.heap.get? b = some o → h'.get? b = some o) → Q none { s with heap := h' }) : wpAny (model prog w) A (pyNext (.ref it)) Q E s := by
  have T := ty_c hit
  unfold pyNext
  refine wpAny_bind (wpAny_attempt (wpAny_callSpecial?_slot (name := Str.ofString "__next__") T slot_next (wpAny_call_entry slot_next T entry_next ?_ (args_next _))))
  refine comb_end_done hh hit fun h' e k ⟨o, ho, hc⟩ => ?_
  refine wpAny_bind (wpAny_isInstance (T := "StopIteration") (b := true) ⟨o, ho, hc⟩ isSubtype_stop ?_)
  exact wpAny_pure (q h' fun b ob _ hb => k b ob hb)
theorem pyNext_last {Q : Option Value → Shared → Prop} (hh : A.handled = none) (hP : IsTup s.heap P acc) (hit : IsComb s.heap it P 1 old is) (hs : nextC acc.size is = none)
    (q : ∀ h', (∀ b o, b ≠ it → s.heap.get? b = some o → h'.get? b = some o) → Q none { s with heap := h' }) : wpAny (model prog w) A (pyNext (.ref it)) Q E s := by
  have T := ty_c hit
  unfold pyNext
  refine wpAny_bind (wpAny_attempt (wpAny_callSpecial?_slot (name := Str.ofString "__next__") T slot_next (wpAny_call_entry slot_next T entry_next ?_ (args_next _))))
  refine comb_end_last hh hP hit hs fun h' e k ⟨o, ho, hc⟩ => ?_
  refine wpAny_bind (wpAny_isInstance (T := "StopIteration") (b := true) ⟨o, ho, hc⟩ isSubtype_stop ?_)
  exact wpAny_pure (q h' k)
theorem pyIter_c {st : Int} {Q : Value → Shared → Prop} (hit : IsComb s.heap it P st old is) (q : Q (.ref it) s) : wpAny (model prog w) A (pyIter (.ref it)) Q E s := by
  have T := ty_c hit
  refine wpAny_pyIter_slot T slot_iter (wpAny_call_entry slot_iter T entry_iter ?_ (args_iter _))
  show wpAny _ _ (ret (.ref it)) _ _ s
  exact wpAny_pure ⟨_, rfl, "itertools.combinations", _, T, slot_next.lookup, q⟩
end
end Sd.CF

/-! Sd: itertools.combinations in a loop. -/
namespace Sd
open L2 PySem PySem.Spec PyProof.Rows
open Sd.CF
/-- rows that follow one another -/
structure Chain (n : Nat) (ls : List (List Nat)) : Prop where
  next : ∀ (j : Nat) (is js : List Nat), ls[j]? = some is → ls[j + 1]? = some js → nextC n is = some js
  last : ∀ (j : Nat) (is : List Nat), ls[j]? = some is → ls[j + 1]? = none → nextC n is = none
  len : ∀ is ∈ ls, is.length ≤ 1000 ∧ ∀ i ∈ is, i < n
theorem combI_chain {n : Nat} : ∀ {f : Nat} {is : List Nat} {r : List (List Nat)}, combI n f is = some r → r[0]? = some is ∧ (∀ (j : Nat) (xs ys : List Nat), r[j]? = some xs → r[j + 1]? = some ys → nextC n xs = some ys) ∧ ∀ (j : Nat) (xs : List Nat), r[j]? = some xs → r[j + 1]? = none → nextC n xs = none
  | 0, _, _, h => by cases h
  | f + 1, is, r, h => by
    have h : (match nextC n is with
      | none => some [is]
      | some js => match combI n f js with
        | some r => some (is :: r)
        | none => none) = some r := h
    cases q : nextC n is with
    | none =>
      rw [q] at h
      cases h
      refine ⟨rfl, fun j xs ys h1 h2 => by simp at h2, fun j xs h1 h2 => ?_⟩
      cases j with
      | zero => simp at h1; subst h1; exact q
      | succ j => simp at h1
    | some js =>
      rw [q] at h
      dsimp only at h
      cases q2 : combI n f js with
      | none => rw [q2] at h; cases h
      | some r2 =>
        rw [q2] at h
        cases h
        obtain ⟨a, b, c⟩ := combI_chain q2
        refine ⟨rfl, fun j xs ys h1 h2 => ?_, fun j xs h1 h2 => ?_⟩
        · cases j with
          | zero =>
            simp at h1 h2
            subst h1
            have a' : r2[0]? = some js := a
            have h2' : r2[0]? = some ys := by simpa using h2
            rw [a'] at h2'
            cases h2'
            exact q
          | succ j => exact b j xs ys (by simpa using h1) (by simpa using h2)
        · cases j with
          | zero =>
            exfalso
            have h2' : r2[0]? = none := by simpa using h2
            rw [a] at h2'
            cases h2'
          | succ j => exact c j xs (by simpa using h1) (by simpa using h2)
theorem combR_ok {m k : Nat} {r : List (List Nat)} (h : combR m k = some r) : Chain m r ∧ ((k > m ∧ r = []) ∨ (¬ k > m ∧ r[0]? = some (List.range k))) := by
  unfold combR at h
  split at h
  · rename_i hk
    cases h
    exact ⟨⟨fun j is js h1 => by simp at h1, fun j is h1 => by simp at h1, fun is h1 => by simp at h1⟩, .inl ⟨hk, rfl⟩⟩
  · rename_i hk
    split at h
    · rename_i r' q
      split at h
      · rename_i hr
        cases h
        obtain ⟨a, b, c⟩ := combI_chain q
        refine ⟨⟨b, c, fun is hi => ?_⟩, .inr ⟨hk, a⟩⟩
        have := List.all_eq_true.mp hr is hi
        simp only [Bool.and_eq_true, decide_eq_true_eq, List.all_eq_true] at this
        exact this
      · cases h
    · cases h
/-- what the loop walks -/
def Itcb (ls : List (List Nat)) : L2.It := ⟨fun i _ => i < ls.length, fun i H v H' => ∃ T, v = .ref T ∧ H T = none ∧ H' = upd H T (.tup ((ls.getD i []).map fun (n : Nat) => V.int n)), fun i _ => ls.length ≤ i⟩
def CTn (ls : List (List Nat)) (it P : Addr) (acc : Array Value) (i : Nat) (h : Heap) : Prop := P ≠ it ∧ IsTup h P acc ∧
  ((i = 0 ∧ ∃ st old is, IsComb h it P st old is ∧ ((st = 2 ∧ ls = []) ∨ (st = 0 ∧ ls[0]? = some is))) ∨ (∃ j old is, i = j + 1 ∧ ls[j]? = some is ∧ IsComb h it P 1 old is))
section
variable {prog : Program} {w : World} {K : PySem.W.Frag} {tg : Expr} {ls : List (List Nat)} {it P : Addr} {acc : Array Value}
theorem comb_vals (ha : ItemsOf (fun i v => ∃ t, v = .int (0 + i * 1) t) acc acc.size) : ∀ {is : List Nat}, (∀ i ∈ is, i < acc.size) → Vals (is.map fun (n : Nat) => V.int n) (is.map fun i => acc.getD i .none)
  | [], _ => .nil
  | i :: is, h => by
    have hi := h i (List.mem_cons_self ..)
    refine .cons ?_ (comb_vals ha fun j hj => h j (List.mem_cons_of_mem _ hj))
    obtain ⟨t, e⟩ := ha.2 i acc[i] (Array.getElem?_eq_getElem hi)
    have e2 : acc.getD i .none = acc[i] := by unfold Array.getD; rw [dif_pos hi]; rfl
    show RelV (V.int i) (acc.getD i .none)
    rw [e2, e]
    exact ⟨t, by congr 1; omega⟩
theorem turn_comb (hch : Chain acc.size ls) (ha : ItemsOf (fun i v => ∃ t, v = .int (0 + i * 1) t) acc acc.size) : Turn prog w K tg (Itcb ls) [it, P] it (CTn ls it P acc) where
  mem := by simp
  obj := fun i h st b hb => by
    obtain ⟨hne, ⟨oP, hoP, hcP, nP, hdP⟩, r⟩ := st
    have e' : b = it ∨ b = P := by simpa using hb
    rcases e' with z | z
    · rw [z]
      rcases r with ⟨_, st, old, is, q, _⟩ | ⟨j, old, is, _, _, q⟩
      · exact ⟨_, q, fun v z => nomatch z⟩
      · exact ⟨_, q, fun v z => nomatch z⟩
    · rw [z]
      exact ⟨oP, hoP, fun v z => by rw [hdP] at z; cases z⟩
  keep := fun i h h' st k => by
    obtain ⟨hne, ⟨oP, hoP, r0⟩, r⟩ := st
    refine ⟨hne, ⟨oP, k P (by simp) _ hoP, r0⟩, ?_⟩
    rcases r with ⟨e, st, old, is, q, r⟩ | ⟨j, old, is, e, r, q⟩
    · exact .inl ⟨e, st, old, is, k it (by simp) _ q, r⟩
    · exact .inr ⟨j, old, is, e, r, k it (by simp) _ q⟩
  item := by
    intro X hP hw hK hc i pins s σ H E Iv hf st hg
    subst hP hw hK
    obtain ⟨hne, hT, r⟩ := st
    have hg : i < ls.length := hg
    have hji : ls[i]? = some ls[i] := List.getElem?_eq_getElem hg
    obtain ⟨z1, z2⟩ := hch.len _ (List.getElem_mem hg)
    have hitl : it < s.heap.objs.size := by
      rcases r with ⟨_, st, old, is, q, _⟩ | ⟨j, old, is, _, _, q⟩ <;> exact Heap.lt_size q
    have hPl : P < s.heap.objs.size := by
      obtain ⟨oP, hoP, _⟩ := hT
      exact Heap.lt_size hoP
    have fin : ∀ h', IsComb h' it P 1 (.ref s.heap.objs.size) ls[i] → h'.get? s.heap.objs.size = some { cls := .type "tuple", data := .seq (ls[i].map fun i => acc.getD i .none).toArray } → h'.objs.size = s.heap.objs.size + 1 →
        (∀ b o, b ≠ it → s.heap.get? b = some o → h'.get? b = some o) → ∃ u, some (Value.ref s.heap.objs.size) = some u ∧
        wpAny (model X.prog X.w) X.A (letOwnedTupleGo tg (.ref it) u) (fun _ s2 => ∃ x H', Inv X pins σ H' s2 ∧ RelV x u ∧ (Itcb ls).yld i H x H' ∧ CTn ls it P acc (i + 1) s2.heap ∧ ∀ b ∈ [it, P], H' b = none) E { s with heap := h' } := by
      intro h' a b c d
      have new : ObjOk X.prog X.w (upd H s.heap.objs.size (.tup (ls[i].map fun (n : Nat) => V.int n))) h' s.heap.objs.size (.tup (ls[i].map fun (n : Nat) => V.int n)) :=
        ⟨by rw [List.length_map]; have := sizeLine_eq; omega, _, comb_vals ha z2, ⟨_, b, rfl, _, rfl⟩⟩
      have I1 : Inv X pins σ (upd H s.heap.objs.size (.tup (ls[i].map fun (n : Nat) => V.int n))) { s with heap := h' } :=
        Iv.turnedNew (t' := s.toks) (ch := [it, P]) (fun b o hb q => d b o (fun z => hb (by simp [z])) q) hf (Nat.le_refl _) new
      refine ⟨_, rfl, go_of (s := { s with heap := h' }) (n := "itertools.combinations") a rfl rfl (by decide) ⟨.ref s.heap.objs.size, _, I1, rfl, ⟨_, rfl, Iv.hok.fresh (Nat.le_refl _), ?_⟩, ⟨hne, ?_, .inr ⟨i, _, _, rfl, hji, a⟩⟩, fun b hb => ?_⟩⟩
      · rw [List.getD_eq_getElem?_getD, hji]
        rfl
      · obtain ⟨oP, hoP, r0⟩ := hT
        exact ⟨oP, d P oP hne hoP, r0⟩
      · have hb' : b < s.heap.objs.size := by
          have e' : b = it ∨ b = P := by simpa using hb
          rcases e' with z | z <;> rw [z] <;> assumption
        rw [upd_ne (Nat.ne_of_lt hb')]
        exact (hf b hb).1
    rcases r with ⟨e, st, old, is, q, r⟩ | ⟨j, old, is, e, r, q⟩
    · subst e
      rcases r with ⟨_, r⟩ | ⟨r0, r⟩
      · subst r
        exact absurd hg (Nat.not_lt_zero _)
      · subst r0
        rw [hji] at r
        have e2 : ls[0] = is := Option.some.inj r
        subst e2
        exact pyNext_first hT hne q z1 fin
    · subst e
      exact pyNext_more hT hne q (hch.next j is _ r hji) z1 fin
  done := by
    intro X hP hw hK hc i pins s σ H E Iv hf st hg
    subst hP hw hK
    obtain ⟨hne, hT, r⟩ := st
    have hg : ls.length ≤ i := hg
    have fin : ∀ h', (∀ b o, b ≠ it → s.heap.get? b = some o → h'.get? b = some o) → (none : Option Value) = none ∧ Inv X pins σ H { s with heap := h' } := fun h' d =>
      ⟨rfl, Iv.turnedL (t' := s.toks) (ch := [it, P]) (fun b o hb q => d b o (fun z => hb (by simp [z])) q) hf⟩
    rcases r with ⟨e, st, old, is, q, r⟩ | ⟨j, old, is, e, r, q⟩
    · subst e
      rcases r with ⟨r0, _⟩ | ⟨r0, r⟩
      · subst r0
        exact pyNext_done (Iv.ok.hd hc) q fin
      · have : ls[0]? = none := List.getElem?_eq_none (by omega)
        rw [this] at r
        cases r
    · subst e
      exact pyNext_last (Iv.ok.hd hc) hT q (hch.last j is r (List.getElem?_eq_none hg)) fin
  self := fun A i s Q E st h => by
    obtain ⟨_, _, r⟩ := st
    rcases r with ⟨_, st, old, is, q, _⟩ | ⟨j, old, is, _, _, q⟩
    · exact pyIter_c q h
    · exact pyIter_c q h
end
section
variable {K : PySem.W.Frag} {C : CK} {X : Cx} {cf : CF} {cs : List PyData} {XR : XT} {k : Nat} {W : WX}
theorem dp_tupN {I : Hp} : ∀ (is : List Nat), DpAll K I (is.map fun (n : Nat) => V.int n) (is.map fun (i : Nat) => PyData.int i)
  | [] => .nil
  | i :: is => .cons (.int _) (dp_tupN is)
theorem walk_cb {I : Hp} {ls : List (List Nat)} : Walk (Itcb ls) (ls.map tupN).length (fun H => Sub I H) (YD K I (ls.map tupN)) := by
  rw [List.length_map]
  refine ⟨fun i H hi _ => hi, fun H _ => Nat.le_refl _, fun i H x H' hi _ y => ?_⟩
  obtain ⟨T, h1, h2, h3⟩ := y
  have hji : ls[i]? = some ls[i] := List.getElem?_eq_getElem hi
  rw [List.getD_eq_getElem?_getD, hji] at h3
  exact ⟨tupN ls[i], by rw [List.getElem?_map, hji]; rfl, .inr ⟨T, _, _, h1, h2, h3, rfl, dp_tupN _⟩⟩
theorem s_itComb {a n : E} {id : Str} {x y : Expr} {q p p2 pos pos2 : Pos} (G0 : G C cf cs XR k X) (hc : C.comb = true) (hg : Gl X "combinations") (hg2 : Gl X "range") (hs : notStar x = true) (hs2 : notStar y = true) (ha : PE X x (tE X.K XR W (ev cf cs a))) (hn : PE X y (tE X.K XR W (ev cf cs n))) :
    PI X (.Name id q) (.Call (.Name "combinations" p) [.Call (.Name "range" p2) [x] [] pos2, y] [] pos) (tI X.K XR W (evI cf cs (.comb a n))) := by
  refine ⟨fun pins s σ H R Iv h => ?_⟩
  obtain ⟨I, A, σ0, m, st, sr, o⟩ := h
  have o : Out X.K XR (relI X.K) W σ I A ((dat (ev cf cs a σ0 m)).bind fun x h1 => match x with
    | .int m => (dat (ev cf cs n σ0 h1)).bind fun y h2 => match y with
      | .int k => if 0 ≤ m && m ≤ 8 && 0 ≤ k && k ≤ 8 then liftO (combD m.toNat k.toNat) h2 else .stuck
      | _ => .stuck
    | _ => .stuck) R := o
  rw [dat_bind] at o
  have key : tE X.K XR W (ev cf cs a) σ H fun x H1 => ∃ m : Int, x = .int m ∧ tE X.K XR W (ev cf cs n) σ H1 fun y H2 => ∃ (k : Int) (ls : List (List Nat)), y = .int k ∧ 0 ≤ m ∧ m ≤ 8 ∧ 0 ≤ k ∧ k ≤ 8 ∧ combR m.toNat k.toNat = some ls ∧ R (Itcb ls) H2 := by
    refine ⟨I, A, σ0, m, st, sr, Out.bind o fun v m1 I1 A1 H1 y1 e1 st1 r1 o1 => ?_⟩
    obtain ⟨d, nw, o1⟩ := snap_bind st1 r1 o1
    cases d <;> first | exact o1.elim | skip
    rename_i mm
    have o1 : Out X.K XR (relI X.K) W σ I1 A1 ((dat (ev cf cs n σ0 m1)).bind fun y h2 => match y with
      | .int k => if 0 ≤ mm && mm ≤ 8 && 0 ≤ k && k ≤ 8 then liftO (combD mm.toNat k.toNat) h2 else .stuck
      | _ => .stuck) R := o1
    rw [dat_bind] at o1
    refine ⟨mm, nw.intv, I1, A1, σ0, m1, st1, sr.mono e1, Out.bind o1 fun v2 m2 I2 A2 H2 y2 e2 st2 r2 o2 => ?_⟩
    obtain ⟨d2, nw2, o2⟩ := snap_bind st2 r2 o2
    cases d2 <;> first | exact o2.elim | skip
    rename_i kk
    have o2 : Out X.K XR (relI X.K) W σ I2 A2 (if 0 ≤ mm && mm ≤ 8 && 0 ≤ kk && kk ≤ 8 then liftO (combD mm.toNat kk.toNat) m2 else .stuck) R := o2
    split at o2
    · rename_i hb
      simp only [Bool.and_eq_true, decide_eq_true_eq] at hb
      unfold combD at o2
      cases q : combR mm.toNat kk.toNat with
      | none => rw [q] at o2; exact o2.elim
      | some ls =>
        rw [q] at o2
        exact ⟨kk, ls, nw2.intv, hb.1.1.1, hb.1.1.2, hb.1.2, hb.2, q, o2 I2 A2 H2 _ Ext.refl st2 walk_cb⟩
    · exact o2.elim
  refine wpAny_Call_Name_kw (ld_glob Iv hg (G0.comb hc) ?_ (by decide))
  refine PyProof.Rows.callWith_type1 (args_cons ?_ (star_of rfl)) (star_of rfl) (by rw [star_of hs2]; rfl)
  refine Call_ (ld_blt Iv hg2 (G0.blt _ (by unfold builtNames; simp)) boot_range (PyProof.Rows.callWith_type1 (one_arg ha Iv key (fun v s2 x H2 I2 r q => ?_) (star_of hs)) (star_of hs) rfl))
  obtain ⟨mm, rfl, q⟩ := q
  obtain ⟨t, rfl⟩ := r
  refine call_range_1 ?_
  have I3 : Inv X pins σ H2 { s2 with heap := s2.heap.push { cls := .type "range", data := .fields #[.int 0 s2.toks, .int mm t, .int 1 (s2.toks + 1)] }, toks := s2.toks + 1 + 1 } := I2.kept fun b o e => Heap.get?_push_of_some _ e
  have I4 : Inv X ((s2.heap.objs.size, { cls := .type "range", data := .fields #[.int 0 s2.toks, .int mm t, .int 1 (s2.toks + 1)] }) :: pins) σ H2 { s2 with heap := s2.heap.push { cls := .type "range", data := .fields #[.int 0 s2.toks, .int mm t, .int 1 (s2.toks + 1)] }, toks := s2.toks + 1 + 1 } :=
    I3.pins_of fun p hp => by
      rcases List.mem_cons.mp hp with rfl | hp
      · exact ⟨Heap.get?_push_size _ rfl, I2.hok.fresh (Nat.le_refl _), Nat.ne_of_gt I2.lt, I2.nofs (Nat.le_refl _), fun v z => nomatch z⟩
      · exact I3.pin p (List.mem_append_right _ hp)
  refine one_arg hn I4 q (fun v s4 y H4 I5 r4 q4 => ?_) (star_of hs2)
  obtain ⟨kk, ls, rfl, b1, b2, b3, b4, hR, hq⟩ := q4
  obtain ⟨t4, rfl⟩ := r4
  have hr := (I5.pin _ (List.mem_append_right _ (List.mem_cons_self ..))).1
  have I6 : Inv X pins σ H4 s4 := I5.pins_of fun p hp => I5.pin p (List.mem_append_right _ (List.mem_cons_of_mem _ hp))
  obtain ⟨ch, first⟩ := combR_ok hR
  refine call_comb (I6.ok.hd G0.calm) hr b1 b2 b3 b4 fun h' tk acc hk' hacc => ?_
  have I7 : Inv X pins σ H4 { s4 with heap := h', toks := tk } := I6.kept hk'
  have I8 : Inv X pins σ H4 { s4 with heap := (h'.push { cls := .type "tuple", data := .seq acc }).push { cls := .type "itertools.combinations", data := .fields (combFs h'.objs.size (if kk.toNat > mm.toNat then 2 else 0) .none (List.range kk.toNat)) }, toks := tk } :=
    I7.kept fun b o e => Heap.get?_push_of_some _ (Heap.get?_push_of_some _ e)
  have hit : IsComb ((h'.push { cls := .type "tuple", data := .seq acc }).push { cls := .type "itertools.combinations", data := .fields (combFs h'.objs.size (if kk.toNat > mm.toNat then 2 else 0) .none (List.range kk.toNat)) }) (h'.objs.size + 1) h'.objs.size (if kk.toNat > mm.toNat then 2 else 0) .none (List.range kk.toNat) := by
    have e := Heap.get?_push_size (h'.push { cls := .type "tuple", data := .seq acc }) (o := { cls := .type "itertools.combinations", data := .fields (combFs h'.objs.size (if kk.toNat > mm.toNat then 2 else 0) .none (List.range kk.toNat)) }) rfl
    rw [Heap.size_push] at e
    exact e
  have hz : acc.size = mm.toNat := hacc.1
  rw [← hz] at ch
  refine pyIter_c hit ⟨h'.objs.size + 1, [h'.objs.size + 1, h'.objs.size], CTn ls (h'.objs.size + 1) h'.objs.size acc, Itcb ls, H4, rfl, I8, turn_comb ch (by rw [hz]; exact hacc), ⟨Nat.ne_of_lt (Nat.lt_succ_self _), ⟨_, Heap.get?_push_of_some _ (Heap.get?_push_size _ rfl), rfl, _, rfl⟩, .inl ⟨rfl, _, _, _, hit, ?_⟩⟩, fun b hb => ?_, hq⟩
  · rcases first with ⟨g1, g2⟩ | ⟨g1, g2⟩
    · rw [if_pos g1]
      exact .inl ⟨rfl, g2⟩
    · rw [if_neg g1]
      exact .inr ⟨rfl, g2⟩
  · have hle : h'.objs.size ≤ b := by
      have e' : b = h'.objs.size + 1 ∨ b = h'.objs.size := by simpa using hb
      rcases e' with z | z
      · rw [z]; exact Nat.le_succ _
      · rw [z]; exact Nat.le_refl _
    exact I7.fpOk hle (I7.hok.fresh hle)
end
end Sd

/-! Sd: comprehensions. -/
namespace Sd
open L2 PySem PySem.Spec PyProof.Rows
section
variable {K : PySem.W.Frag} {C : CK} {X : Cx} {cf : CF} {cs : List PyData} {XR : XT} {k : Nat} {W : WX}
/-! ### a clause's tests -/
theorem tests_no {env : PySem.Env} : ∀ {cs : List Expr}, (forIn cs false fun c r => if r = true then do let ok ← isTrue c env (eval c env); pure (ForInStep.yield ok) else pure (ForInStep.yield r) : Sem Bool) = pure false
  | [] => by rw [List.forIn_nil]
  | c :: cs => by
    rw [List.forIn_cons]
    exact tests_no (cs := cs)
theorem pts_cons {c : Expr} {cs : List Expr} {t u : TT} (h : PT X c t) (hr : PTs X cs u) : PTs X (c :: cs) (fun σ H Q => t σ H fun b H1 => if b = true then u σ H1 Q else Q false H1) := by
  refine ⟨fun pins s σ H Q I hw => ?_⟩
  rw [List.forIn_cons]
  rw [if_pos rfl]
  refine wpAny_bind (wpAny_bind (thn (h.run pins s σ H _ I hw) fun b s1 ⟨H1, I1, q1⟩ => wpAny_pure ?_))
  cases b with
  | true => exact hr.run pins s1 σ H1 Q I1 q1
  | false =>
    show wpAny _ _ (forIn cs false fun c r => if r = true then do let ok ← isTrue c X.env (eval c X.env); pure (ForInStep.yield ok) else pure (ForInStep.yield r) : Sem Bool) _ _ _
    rw [tests_no]
    exact wpAny_pure ⟨H1, I1, q1⟩
theorem pts_imp {cs : List Expr} {t t' : TT} (h : PTs X cs t) (k : ∀ s H Q, t' s H Q → t s H Q) : PTs X cs t' := ⟨fun pins s σ H Q I q => h.run pins s σ H Q I (k σ H Q q)⟩
theorem s_tests0 : PTs X [] (tT X.K XR W (evC cf cs .nil)) := pts_imp pts_nil fun s H Q ⟨I, A, σ, m, st, sr, o⟩ => o I A H true Ext.refl st rfl
theorem s_tests {e : E} {es : Es} {x : Expr} {xs : List Expr} (h : PT X x (tT X.K XR W (evB cf cs e))) (hr : PTs X xs (tT X.K XR W (evC cf cs es))) : PTs X (x :: xs) (tT X.K XR W (evC cf cs (.cons e es))) :=
  pts_imp (pts_cons h hr) fun s H Q ⟨I, A, σ, m, st, sr, o⟩ => by
    have e : evC cf cs (.cons e es) σ m = (evB cf cs e σ m).bind fun b h1 => if b = true then evC cf cs es σ h1 else .ok false h1 := by
      show (dat (ev cf cs e σ m)).bind _ = Re.bind ((dat (ev cf cs e σ m)).bind _) _
      cases dat (ev cf cs e σ m) with
      | stuck => rfl
      | exn c xs h => rfl
      | ok d h =>
        show (match tru d with
          | some true => evC cf cs es σ h
          | some false => .ok false h
          | none => .stuck) = Re.bind (match tru d with
          | some b => Re.ok b h
          | none => .stuck) _
        cases tru d with
        | none => rfl
        | some b => cases b <;> rfl
    rw [e] at o
    refine ⟨I, A, σ, m, st, sr, Out.bind o fun b m1 I1 A1 H1 b1 e1 st1 r1 o1 => ?_⟩
    have r1' : b = b1 := r1
    subst r1'
    cases b with
    | true =>
      rw [if_pos rfl] at o1 ⊢
      exact ⟨I1, A1, σ, m1, st1, sr.mono e1, o1⟩
    | false =>
      rw [if_neg Bool.false_ne_true] at o1 ⊢
      exact o1 I1 A1 H1 _ Ext.refl st1 rfl

/-! ### the block -/
theorem wipeS_len : ∀ {vs : List Nat} {σ : Sl}, (wipeS σ vs).length = σ.length
  | [], _ => rfl
  | i :: r, σ => by
    show (wipeS (σ.set i none) r).length = _
    rw [wipeS_len, List.length_set]
theorem wipeS_some : ∀ {vs : List Nat} {σ : Sl} {i : Nat} {x : RV}, (wipeS σ vs)[i]? = some (some x) → σ[i]? = some (some x) ∧ i ∉ vs
  | [], _, _, _, h => ⟨h, by simp⟩
  | v :: vs, σ, i, x, h => by
    have h : (wipeS (σ.set v none) vs)[i]? = some (some x) := h
    obtain ⟨h1, h2⟩ := wipeS_some h
    by_cases hi : v = i
    · subst hi
      by_cases hv : v < σ.length
      · rw [List.getElem?_set_self hv] at h1; cases h1
      · rw [List.getElem?_eq_none (by rw [List.length_set]; omega)] at h1; cases h1
    · rw [List.getElem?_set_ne hi] at h1
      exact ⟨h1, by simp only [List.mem_cons, not_or]; exact ⟨fun e => hi e.symm, h2⟩⟩
theorem SR.wipe {I : Hp} {A : Ad} {σ : Sl} {s : L2.St} {vs : List Nat} (h : SR K I A σ s) : SR K I A (wipeS σ vs) (L2.wipe s vs) := by
  refine ⟨by rw [wipeS_len, wipe_length]; exact h.len, fun i x q => ?_⟩
  obtain ⟨q1, q2⟩ := wipeS_some q
  rw [wipe_out q2]
  exact h.at_ i x q1
theorem wipe_wipe {s : L2.St} {vs : List Nat} : L2.wipe (L2.wipe s vs) vs = L2.wipe s vs := by
  refine List.ext_getElem? fun i => ?_
  by_cases hi : i ∈ vs
  · rw [wipe_in hi, wipe_in hi, wipe_length]
  · rw [wipe_out hi]
/-- one turn of a comprehension -/
def turnF (cf : CF) (cs : List PyData) (own : List Nat) (t : Tg) (ifs : Es) (e : E) (σ : Sl) (x : PyData) (h : MH) : Re (Option PyData) := match setT t (.v x) (wipeS σ own) with
  | some σ' => match evC cf cs ifs σ' h with
    | .ok true h2 => match datP (ev cf cs e σ' h2) with
      | .ok y h3 => .ok (some y) h3
      | _ => .stuck
    | .ok false h2 => .ok none h2
    | _ => .stuck
  | none => .stuck
theorem evL_comp {own : List Nat} {t : Tg} {it : It} {ifs : Es} {e : E} {σ : Sl} {m : MH} : evL cf cs (.comp own t it ifs e) σ m = (evI cf cs it σ m).bind fun xs h1 => (compL (turnF cf cs own t ifs e σ) xs h1).bind fun ys h2 => if sized ys then .ok ys h2 else .stuck := by
  rw [evL]
  rfl
/-- the frame with one thing more -/
def Ad.put (A : Ad) (D : Addr) (o : HO) : Ad := ⟨A.l, upd A.fr D o⟩
theorem Ext.put {I I' : Hp} {A A' : Ad} {D : Addr} {o : HO} (h : Ext I A I' A') : Ext I (A.put D o) I' (A'.put D o) := ⟨h.sub, h.pre, by show upd A'.fr D o = upd A.fr D o; rw [h.fr]⟩
theorem ST.put {I H : Hp} {A : Ad} {m : MH} (st : ST K I A m H) {D : Addr} {o : HO} (hA : D ∉ A) (hI : I D = none) (hH : H D = some o) : ST K I (A.put D o) m H :=
  ⟨st.sub, st.len, st.nd, st.obj, fun b u q => by
    by_cases hb : b = D
    · subst hb
      have q : upd A.fr b o b = some u := q
      rw [upd_same] at q
      cases q
      exact ⟨hH, hI, (Ad.out hA).1⟩
    · have q : upd A.fr D o b = some u := q
      rw [upd_ne hb] at q
      exact st.fr b u q⟩
/-- .. taken off again: A' came of A with D in its frame -/
theorem ST.off {I I' H : Hp} {A A' : Ad} {m : MH} {D : Addr} {o : HO} (e : Ext I (A.put D o) I' A') (st : ST K I' A' m H) (hA : A.fr D = none) : ∃ A2 : Ad, A2.l = A'.l ∧ A2.fr = A.fr ∧ ST K I' A2 m H ∧ Ext I A I' A2 ∧ D ∉ A2 ∧ I' D = none ∧ H D = some o := by
  have hf : A'.fr = upd A.fr D o := e.fr
  have hD := st.fr D o (by rw [hf, upd_same])
  refine ⟨⟨A'.l, A.fr⟩, rfl, rfl, ⟨st.sub, st.len, st.nd, st.obj, fun b u q => ?_⟩, ⟨e.sub, e.pre, rfl⟩, Ad.out_of hD.2.2 hA, hD.2.1, hD.1⟩
  have q : A.fr b = some u := q
  refine st.fr b u ?_
  rw [hf, upd_ne (ne_of_none q hA)]
  exact q
/-- our own list is written -/
theorem ST.own {I H : Hp} {A : Ad} {m : MH} (st : ST K I A m H) {D : Addr} {o : HO} (hA : D ∉ A) (hI : I D = none) : ST K I A m (upd H D o) := st.addF hA hI
theorem Dp.sub' {I J : Hp} (s : Sub I J) {y : V} {x : PyData} (h : Dp K I y x) : Dp K J y x := dp_sub s h

theorem rr_l {I : Hp} {A A' : Ad} (e : A'.l = A.l) {x : RV} {y : V} (h : RR K I A x y) : RR K I A' x y := by
  cases x with
  | v x => exact h
  | r i =>
    obtain ⟨a, ha, q⟩ := h
    exact ⟨a, by rw [e]; exact ha, q⟩
theorem SR.put {I : Hp} {A : Ad} {D : Addr} {o : HO} {σ : Sl} {s : L2.St} (h : SR K I A σ s) : SR K I (A.put D o) σ s := ⟨h.len, fun i x q => let ⟨y, h1, h2⟩ := h.at_ i x q; ⟨y, h1, rr_l rfl h2⟩⟩
theorem s_rep {a : L} {n : E} {x y : Expr} {p : Pos} (ha : PE X x (tL X.K XR W (evL cf cs a))) (hb : PE X y (tE X.K XR W (ev cf cs n))) : PE X (.BinOp x .Mult y p) (tL X.K XR W (evL cf cs (.rep a n))) :=
  pe_imp (pe_op op_rep ha hb) fun s H Q ⟨I, A, σ, m, st, sr, o⟩ => by
    have o : Out X.K XR (relL X.K) W s I A ((evL cf cs a σ m).bind fun xs h1 => (dat (ev cf cs n σ h1)).bind fun y h2 => match y with
      | .int n => if sized xs && decide (xs.length * n.toNat ≤ 100000) && decide (-two62 < n) && decide (n < two62) then .ok (List.replicate n.toNat xs).flatten h2 else .stuck
      | _ => .stuck) Q := o
    refine ⟨I, A, σ, m, st, sr, Out.bind o fun xs m1 I1 A1 H1 y1 e1 st1 r1 o1 => ?_⟩
    obtain ⟨p, vs, rfl, hH, hI, hA, d⟩ := r1
    rw [dat_bind] at o1
    refine ⟨I1, A1.put p (.lst vs), σ, m1, st1.put hA hI hH, (sr.mono e1).put, ?_⟩
    cases q : ev cf cs n σ m1 with
    | stuck => rw [q] at o1; exact o1
    | exn c zs m2 =>
      rw [q] at o1
      intro I' A' H' cls dd e st' x
      obtain ⟨A2, l2, f2, st2, e2, a2, i2, h2⟩ := ST.off e st' (Ad.out hA).2
      exact o1 I' A2 H' cls dd e2 st2 x
    | ok w m2 =>
      rw [q] at o1
      intro I' A' H' b e st' r
      obtain ⟨A2, l2, f2, st2, e2, a2, i2, h2⟩ := ST.off e st' (Ad.out hA).2
      have o2 := Out.mono e2 o1
      obtain ⟨dd, nn, o3⟩ := snap_bind st2 (rr_l l2 r) o2
      cases dd <;> first | exact o3.elim | skip
      rename_i k
      have o3 : Out X.K XR (relL X.K) W s I' A2 (if sized xs && decide (xs.length * k.toNat ≤ 100000) && decide (-two62 < k) && decide (k < two62) then .ok (List.replicate k.toNat xs).flatten m2 else .stuck) Q := o3
      split at o3
      · rename_i hs
        simp only [Bool.and_eq_true, decide_eq_true_eq] at hs
        unfold two62 at hs
        have ll := line_ge
        refine ⟨p, k, vs, rfl, nn.intv, h2, by omega, by omega, by rw [DpAll.len d]; omega, new_lst st2 (rep_flat (dps_sub e2.sub d) _) o3⟩
      · exact o3.elim
theorem compL_not {F : PyData → MH → Re (Option PyData)} : ∀ {xs : List PyData} {m : MH}, (∃ ys m', compL F xs m = .ok ys m') ∨ compL F xs m = .stuck
  | [], m => .inl ⟨[], m, rfl⟩
  | x :: r, m => by
    show (∃ ys m', (match F x m with
      | .ok o h1 => match compL F r h1 with
        | .ok ys h2 => Re.ok (match o with
          | some y => y :: ys
          | none => ys) h2
        | _ => .stuck
      | _ => .stuck) = .ok ys m') ∨ (match F x m with
      | .ok o h1 => match compL F r h1 with
        | .ok ys h2 => Re.ok (match o with
          | some y => y :: ys
          | none => ys) h2
        | _ => .stuck
      | _ => .stuck) = .stuck
    cases F x m with
    | stuck => exact .inr rfl
    | exn c xs h => exact .inr rfl
    | ok o h1 =>
      dsimp only
      cases compL F r h1 with
      | stuck => exact .inr rfl
      | exn c xs h => exact .inr rfl
      | ok ys h2 => exact .inl ⟨_, _, rfl⟩
theorem compL_cons {F : PyData → MH → Re (Option PyData)} {x : PyData} {r : List PyData} {m m2 : MH} {zs : List PyData} (h : compL F (x :: r) m = .ok zs m2) :
    ∃ o m1 ys, F x m = .ok o m1 ∧ compL F r m1 = .ok ys m2 ∧ zs = (match o with | some y => y :: ys | none => ys) := by
  have h : (match F x m with
    | .ok o h1 => match compL F r h1 with
      | .ok ys h2 => Re.ok (match o with
        | some y => y :: ys
        | none => ys) h2
      | _ => .stuck
    | _ => .stuck) = .ok zs m2 := h
  cases q : F x m with
  | stuck => rw [q] at h; cases h
  | exn c xs h' => rw [q] at h; cases h
  | ok o h1 =>
    rw [q] at h
    dsimp only at h
    cases q2 : compL F r h1 with
    | stuck => rw [q2] at h; cases h
    | exn c xs h' => rw [q2] at h; cases h
    | ok ys h2 =>
      rw [q2] at h
      cases h
      exact ⟨o, h1, ys, rfl, q2, rfl⟩
/-- no exception leaves a block -/
def W0 : WX := fun _ _ _ _ => False
/-- what the loop of a comprehension has done -/
def CInv (K : PySem.W.Frag) (F : PyData → MH → Re (Option PyData)) (I1 : Hp) (A1 : Ad) (D : Addr) (xs ys : List PyData) (m2 : MH) (i : Nat) (H : Hp) : Prop :=
  ∃ I A m vs acc zs, Ext I1 A1 I A ∧ ST K I A m H ∧ I D = none ∧ D ∉ A ∧ H D = some (.lst vs) ∧ DpAll K I vs acc ∧ compL F (xs.drop i) m = .ok zs m2 ∧ acc ++ zs = ys
theorem comp_key {own : List Nat} {t : Tg} {it : It} {ifs : Es} {e : E} {s : L2.St} {H : Hp} {Q : VK} (hsz : ∀ i ∈ tgSlots t, i ∈ own) (h : tL K XR W (evL cf cs (.comp own t it ifs e)) s H Q) :
    tLc (tI K XR W (evI cf cs it)) (tTg K t) (tT K XR W0 (evC cf cs ifs)) (tE K XR W0 (ev cf cs e)) own s H Q := by
  obtain ⟨I, A, σ, m, st, sr, o⟩ := h
  have o : Out K XR (relL K) W s I A ((evI cf cs it σ m).bind fun xs h1 => (compL (turnF cf cs own t ifs e σ) xs h1).bind fun ys h2 => if sized ys then .ok ys h2 else .stuck) Q := evL_comp ▸ o
  refine ⟨I, A, σ, m, st, sr, Out.bind o fun xs m1 I1 A1 H1 J e1 st1 w o1 => ?_⟩
  have w : Walk J xs.length (fun H => Sub I1 H) (YD K I1 xs) := w
  intro D hD
  obtain ⟨hI, hA⟩ := st1.fresh hD
  rcases compL_not (F := turnF cf cs own t ifs e σ) (xs := xs) (m := m1) with ⟨ys, m2, q⟩ | q
  rotate_left
  · rw [q] at o1; exact o1.elim
  rw [q] at o1
  have o1 : Out K XR (relL K) W s I1 A1 (if sized ys then .ok ys m2 else .stuck) Q := o1
  cases hz : sized ys with
  | false => rw [hz] at o1; exact o1.elim
  | true =>
  rw [hz, if_pos rfl] at o1
  have zz : ys.length ≤ 100000 := sized_le hz
  have ll := line_ge
  refine lc_it w (CInv K (turnF cf cs own t ifs e σ) I1 A1 D xs ys m2) ⟨I1, A1, m1, [], [], ys, Ext.refl, st1.addF hA hI, hI, hA, upd_same, .nil, q, rfl⟩ (fun i H hi p => ?_) (fun i x H H' hi p y => ?_) fun H p => ?_
  · obtain ⟨I2, A2, m3, vs, acc, zs, e2, st2, _⟩ := p
    exact fun b o h => st2.sub b o (e2.sub b o h)
  · obtain ⟨I2, A2, m3, vs, acc, zs, e2, st2, iD, aD, hD2, da, hc, hy⟩ := p
    obtain ⟨x0, hx, y⟩ := y
    have hdr : xs.drop i = x0 :: xs.drop (i + 1) := by
      rw [List.drop_eq_getElem_cons hi]
      congr 1
      have := List.getElem?_eq_getElem hi
      rw [this] at hx
      exact Option.some.inj hx
    rw [hdr] at hc
    obtain ⟨ob, m4, ys2, hF, hR, hzs⟩ := compL_cons hc
    -- the item
    obtain ⟨I3, e3, st3, iD3, hD3, dx⟩ : ∃ I3, Ext I2 A2 I3 A2 ∧ ST K I3 A2 m3 H' ∧ I3 D = none ∧ H' D = some (.lst vs) ∧ Dp K I3 x x0 := by
      rcases y with ⟨rfl, d⟩ | ⟨T, ws, ds, rfl, hT, rfl, rfl, d⟩
      · exact ⟨I2, Ext.refl, st2, iD, hD2, dp_sub e2.sub d⟩
      · obtain ⟨iT, aT⟩ := st2.fresh hT
        have ne : D ≠ T := ne_of_none hD2 hT
        exact ⟨upd I2 T (.tup ws), ext_upd iT, st2.addI aT iT, by rw [upd_ne ne]; exact iD, by rw [upd_ne ne]; exact hD2, .tup (SqT.of upd_same) (dps_sub (sub_upd iT) (dps_sub e2.sub d))⟩
    have hF : (match setT t (.v x0) (wipeS σ own) with
      | some σ' => match evC cf cs ifs σ' m3 with
        | .ok true h2 => match datP (ev cf cs e σ' h2) with
          | .ok y h3 => Re.ok (some y) h3
          | _ => .stuck
        | .ok false h2 => .ok none h2
        | _ => .stuck
      | none => .stuck) = .ok ob m4 := hF
    cases hs : setT t (.v x0) (wipeS σ own) with
    | none => rw [hs] at hF; cases hF
    | some σ' =>
    rw [hs] at hF
    dsimp only at hF
    have st3' := st3.put aD iD3 hD3
    have srw : SR K I3 (A2.put D (.lst vs)) (wipeS σ own) (L2.wipe s own) := by
      have s1 := (sr.mono ((e1.trans e2).trans e3)).wipe (vs := own)
      exact ⟨s1.len, fun i x q => let ⟨y, h1, h2⟩ := s1.at_ i x q; ⟨y, h1, by cases x <;> exact h2⟩⟩
    refine ⟨I3, A2.put D (.lst vs), wipeS σ own, m3, .v x0, σ', st3', srw, dx, hs, fun s' sr' sm => ⟨(sm.wipe hsz).trans wipe_wipe, ?_⟩⟩
    refine ⟨I3, A2.put D (.lst vs), σ', m3, st3', sr', ?_⟩
    cases hev : evC cf cs ifs σ' m3 with
    | stuck => rw [hev] at hF; cases hF
    | exn c zs' h' => rw [hev] at hF; cases hF
    | ok b m5 =>
    rw [hev] at hF
    intro I4 A4 H4 b' e4 st4 rb
    have rb : b = b' := rb
    subst rb
    cases b with
    | false =>
      rw [if_neg Bool.false_ne_true]
      have hF : (Re.ok none m5 : Re (Option PyData)) = .ok ob m4 := hF
      injection hF with hF1 hF2
      subst hF1 hF2
      obtain ⟨A5, l5, f5, st5, e5, a5, i5, h5⟩ := ST.off e4 st4 (Ad.out aD).2
      exact ⟨I4, A5, m5, vs, acc, ys2, (e2.trans e3).trans e5, st5, i5, a5, h5, dps_sub (e3.sub.trans e4.sub) da, hR, by rw [← hy, hzs]⟩
    | true =>
      rw [if_pos rfl]
      have hF : (match datP (ev cf cs e σ' m5) with
        | .ok y h3 => Re.ok (some y) h3
        | _ => .stuck) = .ok ob m4 := hF
      cases hp : ev cf cs e σ' m5 with
      | stuck => rw [hp] at hF; cases hF
      | exn c zs' h' => rw [hp] at hF; cases hF
      | ok rv m6 =>
      rw [hp] at hF
      have hF : (match froze rv m6 with
        | .ok y h3 => Re.ok (some y) h3
        | _ => .stuck) = .ok ob m4 := hF
      cases hq : froze rv m6 with
      | stuck => rw [hq] at hF; cases hF
      | exn c zs' h' => rw [hq] at hF; cases hF
      | ok yd m7 =>
      rw [hq] at hF
      injection hF with hF1 hF2
      subst hF1 hF2
      refine ⟨I4, A4, σ', m5, st4, sr'.mono e4, ?_⟩
      rw [hp]
      intro I6 A6 H6 yv e6 st6 r6
      obtain ⟨I7, e7, st7, d7⟩ := froze_ok st6 r6 hq
      obtain ⟨A5, l5, f5, st5, e5, a5, i5, h5⟩ := ST.off ((e4.trans e6).trans e7) st7 (Ad.out aD).2
      have hl : acc.length + (ys2.length + 1) = ys.length := by
        rw [← hy, List.length_append, hzs]
        rfl
      refine ⟨vs, h5, by rw [DpAll.len da]; omega, I7, A5, m7, vs ++ [yv], acc ++ [yd], ys2, (e2.trans e3).trans e5, st5.own a5 i5, i5, a5, upd_same, ?_, hR, ?_⟩
      · exact DpAll.app (dps_sub (e3.sub.trans e5.sub) da) (.cons d7 .nil)
      · rw [← hy, hzs, List.append_assoc]
        rfl
  · obtain ⟨I2, A2, m3, vs, acc, zs, e2, st2, iD, aD, hD2, da, hc, hy⟩ := p
    rw [List.drop_length] at hc
    cases hc
    rw [List.append_nil] at hy
    subst hy
    exact o1 I2 A2 H _ e2 st2 ⟨D, vs, rfl, hD2, iD, aD, da⟩
theorem takes0 {X : Cx} : Takes X W0 := fun u s' ⟨_, _, _, _, _, _, _, _, _, _, _, _, _, _, _, _, w⟩ => w.elim
end
end Sd

/-! Sd: statements. -/
namespace Sd
open L2 PySem PySem.Spec PyProof.Rows
/-- where a def's body runs -/
structure FX (sc : Scope) (X : Cx) : Prop where
  esc : X.env.scope = sc
  kind : sc.kind = .function
  gt : GT sc X
  own : PassesOwn (model X.prog X.w) X.A X.env X.xe
  stk : X.stack = X.env :: X.outer
  fr : X.env.frame = some X.env.locals
section
variable {K : PySem.W.Frag} {C : CK} {X : Cx} {cf : CF} {cs : List PyData} {XR : XT} {k : Nat} {W : WX}
def OutS (K : PySem.W.Frag) (XR : XT) (W : WX) (D : Ends) (I : Hp) (A : Ad) (r : Rs) : Prop :=
  match r with
  | .nx σ m => ∀ I' A' H' s', Ext I A I' A' → ST K I' A' m H' → SR K I' A' σ s' → D.nx s' H'
  | .bk σ m => ∀ I' A' H' s', Ext I A I' A' → ST K I' A' m H' → SR K I' A' σ s' → D.bk s' H'
  | .ct σ m => ∀ I' A' H' s', Ext I A I' A' → ST K I' A' m H' → SR K I' A' σ s' → D.ct s' H'
  | .rt v m => ∀ I' A' H' y, Ext I A I' A' → ST K I' A' m H' → RR K I' A' v y → D.rt y H'
  | .exn c xs σ m => ∀ I' A' H' s' cls d, Ext I A I' A' → ST K I' A' m H' → SR K I' A' σ s' → XR c xs cls d I' H' → W cls d s' H'
  | .stuck => False
theorem OutS.mono {D : Ends} {I I' : Hp} {A A' : Ad} (e : Ext I A I' A') : ∀ {r : Rs}, OutS K XR W D I A r → OutS K XR W D I' A' r
  | .nx _ _, h => fun I2 A2 H2 b e2 => h I2 A2 H2 b (e.trans e2)
  | .bk _ _, h => fun I2 A2 H2 b e2 => h I2 A2 H2 b (e.trans e2)
  | .ct _ _, h => fun I2 A2 H2 b e2 => h I2 A2 H2 b (e.trans e2)
  | .rt _ _, h => fun I2 A2 H2 b e2 => h I2 A2 H2 b (e.trans e2)
  | .exn _ _ _ _, h => fun I2 A2 H2 b c d e2 => h I2 A2 H2 b c d (e.trans e2)
  | .stuck, h => h
def tS (K : PySem.W.Frag) (XR : XT) (W : WX) (f : Sl → MH → Rs) : TS := fun D s H => ∃ I A σ m, ST K I A m H ∧ SR K I A σ s ∧ OutS K XR W D I A (f σ m)
theorem ps_imp {st : Stmt} {t t' : TS} (h : PS X st t) (k : ∀ D s H, t' D s H → t D s H) : PS X st t' := ⟨fun pins s σ H D I q => h.run pins s σ H D I (k D σ H q)⟩
theorem pss_imp {st : List Stmt} {t t' : TS} (h : PSs X st t) (k : ∀ D s H, t' D s H → t D s H) : PSs X st t' := ⟨fun pins s σ H D I q => h.run pins s σ H D I (k D σ H q)⟩
/-- an expression that a statement asks -/
theorem st_bind {α β : Type} {rel : Hp → Ad → MH → Hp → α → β → Prop} {D : Ends} {s : L2.St} {I : Hp} {A : Ad} {σ : Sl} {g : α → MH → Rs} {Q : β → Hp → Prop} (sr : SR K I A σ s) :
    ∀ {x : Re α}, OutS K XR W D I A (x.st σ g) → (∀ a m I' A' H' b, Ext I A I' A' → ST K I' A' m H' → rel I' A' m H' a b → OutS K XR W D I' A' (g a m) → Q b H') → Out K XR rel W s I A x Q
  | .ok a m, h, f => fun I' A' H' b e st r => f a m I' A' H' b e st r (OutS.mono e h)
  | .exn _ _ _, h, _ => fun I' A' H' cls d e st x => h I' A' H' s cls d e st (sr.mono e) x
  | .stuck, h, _ => h
theorem s_ss0 : PSs X [] (tS X.K XR W (exs cf cs .nil)) := pss_imp pss_nil fun D s H ⟨I, A, σ, m, st, sr, o⟩ => o I A H s Ext.refl st sr
theorem s_ss {a : S} {b : Ss} {x : Stmt} {xs : List Stmt} (h : PS X x (tS X.K XR W (ex cf cs a))) (hr : PSs X xs (tS X.K XR W (exs cf cs b))) : PSs X (x :: xs) (tS X.K XR W (exs cf cs (.cons a b))) :=
  pss_imp (pss_cons h hr) fun D s H ⟨I, A, σ, m, st, sr, o⟩ => by
    have o : OutS X.K XR W D I A (match ex cf cs a σ m with
      | .nx σ' h' => exs cf cs b σ' h'
      | z => z) := o
    refine ⟨I, A, σ, m, st, sr, ?_⟩
    cases q : ex cf cs a σ m <;> rw [q] at o <;> first | exact o | skip
    intro I' A' H' s' e st' sr'
    exact ⟨I', A', _, _, st', sr', OutS.mono e o⟩
theorem datP_st {σ : Sl} {x : Re RV} {f : PyData → MH → Rs} : (datP x).st σ f = x.st σ fun v m => (froze v m).st σ f := by
  cases x <;> rfl
theorem dat_st {σ : Sl} {x : Re RV} {f : PyData → MH → Rs} : (dat x).st σ f = x.st σ fun v m => (liftO (snap v m) m).st σ f := by
  cases x <;> rfl
theorem kept_st {D : Ends} {σ : Sl} {I H : Hp} {A : Ad} {v : RV} {m : MH} {y : V} {f : PyData → MH → Rs} (st : ST K I A m H) (r : RR K I A v y)
    (o : OutS K XR W D I A ((froze v m).st σ f)) : ∃ x m' I', Ext I A I' A ∧ ST K I' A m' H ∧ Dp K I' y x ∧ OutS K XR W D I' A (f x m') := by
  cases q : froze v m with
  | stuck => rw [q] at o; exact o.elim
  | exn c xs m' =>
    rcases froze_ok2 (m := m) (v := v) with ⟨x, m2, e⟩ | e
    · rw [q] at e; cases e
    · rw [q] at e; cases e
  | ok x m' =>
    rw [q] at o
    obtain ⟨I', e, st', d⟩ := froze_ok st r q
    exact ⟨x, m', I', e, st', d, OutS.mono e o⟩

/-! ### plain ones -/
theorem s_pass {p : Pos} : PS X (.Pass p) (tS X.K XR W (ex cf cs .pass)) := ps_imp ps_pass fun D s H ⟨I, A, σ, m, st, sr, o⟩ => o I A H s Ext.refl st sr
theorem s_brk {p : Pos} : PS X (.Break p) (tS X.K XR W (ex cf cs .brk)) := ps_imp ps_break fun D s H ⟨I, A, σ, m, st, sr, o⟩ => o I A H s Ext.refl st sr
theorem s_cont {p : Pos} : PS X (.Continue p) (tS X.K XR W (ex cf cs .cont)) := ps_imp ps_continue fun D s H ⟨I, A, σ, m, st, sr, o⟩ => o I A H s Ext.refl st sr
theorem swaps_no {e : Expr} {t : Option Expr} {l : Nat} {env : PySem.Env} (h : isCompX e = false) : swapsWith e t l env = pure false := by
  cases e <;> first | rfl | exact Bool.noConfusion h
theorem s_expr {e : E} {x : Expr} {p : Pos} (hc : isCompX x = false) (h : PE X x (tE X.K XR W (ev cf cs e))) : PS X (.Expr x p) (tS X.K XR W (ex cf cs (.expr e))) :=
  ps_imp (ps_expr h (swaps_no hc)) fun D s H ⟨I, A, σ, m, st, sr, o⟩ => by
    have o : OutS X.K XR W D I A ((ev cf cs e σ m).st σ fun _ h1 => .nx σ h1) := o
    exact ⟨I, A, σ, m, st, sr, st_bind sr o fun v m1 I1 A1 H1 y e1 st1 r1 o1 => o1 I1 A1 H1 s Ext.refl st1 (sr.mono e1)⟩
theorem s_ret {e : E} {x : Expr} {p : Pos} (h : PE X x (tE X.K XR W (ev cf cs e))) : PS X (.Return (some x) p) (tS X.K XR W (ex cf cs (.ret e))) :=
  ps_imp (ps_ret h) fun D s H ⟨I, A, σ, m, st, sr, o⟩ => by
    have o : OutS X.K XR W D I A ((ev cf cs e σ m).st σ fun v h1 => .rt v h1) := o
    exact ⟨I, A, σ, m, st, sr, st_bind sr o fun v m1 I1 A1 H1 y e1 st1 r1 o1 => o1 I1 A1 H1 y Ext.refl st1 r1⟩
theorem s_retN {p : Pos} : PS X (.Return none p) (tS X.K XR W (ex cf cs .retN)) := ps_imp ps_retN fun D s H ⟨I, A, σ, m, st, sr, o⟩ => o I A H .non Ext.refl st .non
theorem s_if {c : E} {a b : Ss} {x : Expr} {ys zs : List Stmt} {p : Pos} (hc : PT X x (tT X.K XR W (evB cf cs c))) (ha : PSs X ys (tS X.K XR W (exs cf cs a))) (hb : PSs X zs (tS X.K XR W (exs cf cs b))) :
    PS X (.If x ys zs p) (tS X.K XR W (ex cf cs (.ite c a b))) := ps_imp (ps_if hc ha hb) fun D s H ⟨I, A, σ, m, st, sr, o⟩ => by
  have e : ex cf cs (.ite c a b) σ m = (evB cf cs c σ m).st σ fun t h1 => if t = true then exs cf cs a σ h1 else exs cf cs b σ h1 := by
    show (dat (ev cf cs c σ m)).st σ _ = Re.st (Re.bind (dat (ev cf cs c σ m)) _) σ _
    cases dat (ev cf cs c σ m) with
    | stuck => rfl
    | exn c xs h => rfl
    | ok d h1 =>
      show (match tru d with
        | some true => exs cf cs a σ h1
        | some false => exs cf cs b σ h1
        | none => .stuck) = Re.st (match tru d with
        | some b => Re.ok b h1
        | none => .stuck) σ _
      cases tru d with
      | none => rfl
      | some t => cases t <;> rfl
  rw [e] at o
  refine ⟨I, A, σ, m, st, sr, st_bind sr o fun t m1 I1 A1 H1 b1 e1 st1 r1 o1 => ?_⟩
  have r1' : t = b1 := r1
  subst r1'
  cases t with
  | true =>
    rw [if_pos rfl] at o1 ⊢
    exact ⟨I1, A1, σ, m1, st1, sr.mono e1, o1⟩
  | false =>
    rw [if_neg Bool.false_ne_true] at o1 ⊢
    exact ⟨I1, A1, σ, m1, st1, sr.mono e1, o1⟩

/-! ### stores -/
theorem all_local {sc : Scope} {ts : List Expr} {line : Nat} (h : (ts.any fun u => match u with
    | .Name x p => !lclB sc x
    | _ => true) = true) : (ts.filterMap fun
    | .Name id pos => if sc.names.lookup id == some .local && pos.line == line then some id else none
    | _ => none).length < ts.length := by
  induction ts with
  | nil => simp at h
  | cons t ts ih =>
    have le : ∀ us : List Expr, (us.filterMap fun
      | .Name id pos => if sc.names.lookup id == some .local && pos.line == line then some id else none
      | _ => none).length ≤ us.length := fun us => List.length_filterMap_le _ _
    rw [List.any_cons, Bool.or_eq_true] at h
    rcases h with h | h
    · have e : (match t with
        | .Name id pos => if sc.names.lookup id == some .local && pos.line == line then some id else none
        | _ => none) = none := by
        cases t <;> first | rfl | skip
        rename_i x p
        have h : (!lclB sc x) = true := h
        have hn : (sc.names.lookup x == some .local) = false := by
          unfold lclB at h
          split at h
          · cases h
          · rename_i q
            exact beq_eq_false_iff_ne.mpr fun z => q z
        simp [hn]
      rw [List.filterMap_cons]
      split
      · exact Nat.lt_succ_of_le (le ts)
      · rename_i q
        exact absurd (q.symm.trans e) (fun z => nomatch z)
    · have := ih h
      rw [List.filterMap_cons]
      split
      · exact Nat.lt_succ_of_lt this
      · exact Nat.succ_lt_succ this
theorem swapped_none {t v : Expr} {env : PySem.Env} {sc : Scope} (hs : env.scope = sc) (h : noSwap sc t v = true) : swappedStores [t] v env = pure none := by
  subst hs
  cases t <;> cases v <;> first | rfl | (unfold noSwap at h; exact Bool.noConfusion h) | skip
  rename_i ts k1 p1 vs k2 p2
  simp only [noSwap, Bool.or_eq_true] at h
  unfold swappedStores
  dsimp only
  split
  · rfl
  rename_i h1
  split
  · rfl
  split
  · rfl
  rename_i h3
  split
  · rfl
  rename_i h4
  exfalso
  simp only [Bool.or_eq_true, not_or, Bool.not_eq_true] at h1 h3
  obtain ⟨⟨a1, a2⟩, a3⟩ := h1
  rcases h with ((h | h) | h) | h
  · rw [a1] at h; exact Bool.noConfusion h
  · have a2' : vs.length = ts.length := by simpa using a2
    rw [a2'] at h
    simp at h
  · exact h4 h
  · have lt := all_local (line := (ts.head?.map (·.pos.line)).getD 0) h
    have eq := h3.1
    simp only [bne_eq_false_iff_eq] at eq
    exact Nat.ne_of_lt lt eq
theorem s_asg {t : Tg} {e : E} {x y : Expr} {p : Pos} {sc : Scope} (hs : X.env.scope = sc) (hc : isCompX y = false) (hp : plainTg x = true) (hn : noSwap sc x y = true) (ht : PG X x (tTg X.K t)) (h : PE X y (tE X.K XR W (ev cf cs e))) :
    PS X (.Assign [x] y p) (tS X.K XR W (ex cf cs (.asg t e))) :=
  ps_imp (ps_asg h ht (swaps_no hc) (swapped_none hs hn) (by rw [each_of hp]; rfl)) fun D s H ⟨I, A, σ, m, st, sr, o⟩ => by
    have o : OutS X.K XR W D I A ((ev cf cs e σ m).st σ fun v h1 => match setT t v σ with
      | some σ' => .nx σ' h1
      | none => .stuck) := o
    refine ⟨I, A, σ, m, st, sr, st_bind sr o fun v m1 I1 A1 H1 y e1 st1 r1 o1 => ?_⟩
    cases q : setT t v σ with
    | none => rw [q] at o1; exact o1.elim
    | some σ' =>
      rw [q] at o1
      exact ⟨I1, A1, σ, m1, v, σ', st1, sr.mono e1, r1, q, fun s' sr' _ => o1 I1 A1 H1 s' Ext.refl st1 sr'⟩
theorem asgL_key {i : Nat} {l : L} {nw : Bool} {D : Ends} {s : L2.St} {H : Hp} (h : tS K XR W (ex cf cs (.asgL i l nw)) D s H) : tAsg (tL K XR W (evL cf cs l)) (gName i) D s H := by
  obtain ⟨I, A, σ, m, st, sr, o⟩ := h
  cases nw with
  | false =>
    have o : OutS K XR W D I A ((evL cf cs l σ m).st σ fun xs h1 => if i < σ.length then .nx (setS σ i (.v (.list xs))) h1 else .stuck) := o
    refine ⟨I, A, σ, m, st, sr, st_bind sr o fun xs m1 I1 A1 H1 y e1 st1 r1 o1 => ?_⟩
    obtain ⟨p, vs, rfl, hH, hI, hA, d⟩ := r1
    split at o1
    · exact o1 _ A1 H1 _ (ext_upd hI) (st1.keepI hA hI hH) ((sr.mono (e1.trans (ext_upd hI))).set (.lst (SqL.of upd_same) (dps_sub (sub_upd hI) d)))
    · exact o1.elim
  | true =>
    have o : OutS K XR W D I A ((evL cf cs l σ m).st σ fun xs h1 => if i < σ.length then .nx (setS σ i (.r h1.length)) (h1 ++ [.lst xs]) else .stuck) := o
    refine ⟨I, A, σ, m, st, sr, st_bind sr o fun xs m1 I1 A1 H1 y e1 st1 r1 o1 => ?_⟩
    obtain ⟨p, vs, rfl, hH, hI, hA, d⟩ := r1
    split at o1
    · refine o1 I1 (A1.add p) H1 _ ext_app (st1.addA hA hI hH d) ((sr.mono (e1.trans ext_app)).set ⟨p, ?_, rfl⟩)
      show (A1.l ++ [p])[m1.length]? = some p
      rw [← st1.len, List.getElem?_append_right (Nat.le_refl _)]
      simp
    · exact o1.elim
theorem s_asgL {i : Nat} {l : L} {nw : Bool} {id : Str} {y : Expr} {p p2 : Pos} (hN : X.N = C.N) (nd : X.N.Nodup) (hi : C.N[i]? = some id) (hl : Loc X.env.scope id ∧ (X.fn id = true ∨ X.env.scope.names.lookup id = some .local)) (hc : isCompX y = false) (h : PE X y (tL X.K XR W (evL cf cs l))) :
    PS X (.Assign [.Name id p2] y p) (tS X.K XR W (ex cf cs (.asgL i l nw))) :=
  ps_imp (ps_set nd (by rw [hN]; exact hi) hl.1 h (swaps_no hc) hl.2) fun D s H q => asgL_key q
theorem setP2 {i j : Nat} {v w : RV} {σ σ' : Sl} (h : setP [i, j] [v, w] σ = some σ') : σ' = setS (setS σ i v) j w := by
  have h : (if i < σ.length then (if j < (setS σ i v).length then some (setS (setS σ i v) j w) else none) else none) = some σ' := h
  split at h
  · split at h
    · cases h; rfl
    · cases h
  · cases h
theorem setP3 {i j l : Nat} {v w z : RV} {σ σ' : Sl} (h : setP [i, j, l] [v, w, z] σ = some σ') : σ' = setS (setS (setS σ i v) j w) l z := by
  have h : (if i < σ.length then (if j < (setS σ i v).length then (if l < (setS (setS σ i v) j w).length then some (setS (setS (setS σ i v) j w) l z) else none) else none) else none) = some σ' := h
  split at h
  · split at h
    · split at h
      · cases h; rfl
      · cases h
    · cases h
  · cases h
theorem lcl_of {sc : Scope} {x : Str} (h : lclB sc x = true) : sc.names.lookup x = some .local := by
  unfold lclB at h
  split at h
  · assumption
  · cases h
theorem swapped2 {x y : Str} {a b : Expr} {px py pt : Pos} {kt k2 pt2} {env : PySem.Env} (hk : env.scope.kind = .function) (hx : env.scope.names.lookup x = some .local) (hy : env.scope.names.lookup y = some .local) (hxy : x ≠ y) (hl : (py.line == px.line) = true)
    (hs : notStar a = true) (hs2 : notStar b = true) (hf : [a, b].all (foldedForSure 8) = false) (hc : [a, b].all (constantsAlone 8) = false) : swappedStores [.Tuple [.Name x px, .Name y py] kt pt] (.Tuple [a, b] k2 pt2) env = pure (some [x, y]) := by
  have hb : env.blockKind = .function := by unfold Env.blockKind; rw [hk]; rfl
  have e1 : ([a, b].any fun | .Starred .. => true | _ => false) = false := by
    cases a <;> cases b <;> first | rfl | exact Bool.noConfusion hs | exact Bool.noConfusion hs2
  have kx : env.kindOf x = some .local := hx
  have ky : env.kindOf y = some .local := hy
  have hd : [x, y].eraseDups = [x, y] := by
    have hne : (y == x) = false := beq_eq_false_iff_ne.mpr fun z => hxy z.symm
    simp [List.eraseDups_cons, hne]
  unfold swappedStores
  simp only [hb, e1, kx, ky, hf, hc, hl, List.filterMap_cons, List.filterMap_nil, List.head?_cons, Option.map_some, Option.getD_some, Expr.pos, beq_self_eq_true, Bool.and_self, if_true, hd]
  rw [if_neg (by simp)]
  refine Eq.trans (if_neg fun z => Bool.false_ne_true (e1.symm.trans z)) ?_
  rw [if_neg (by simp)]
  rfl
theorem swapped3 {x y z : Str} {a b c : Expr} {px py pz pt : Pos} {kt k2 pt2} {env : PySem.Env} (hk : env.scope.kind = .function) (hx : env.scope.names.lookup x = some .local) (hy : env.scope.names.lookup y = some .local) (hz : env.scope.names.lookup z = some .local) (hxy : x ≠ y) (hxz : x ≠ z) (hyz : y ≠ z) (hl : (py.line == px.line) = true) (hl2 : (pz.line == px.line) = true)
    (hs : notStar a = true) (hs2 : notStar b = true) (hs3 : notStar c = true) (hf : [a, b, c].all (foldedForSure 8) = false) (hc : [a, b, c].all (constantsAlone 8) = false) : swappedStores [.Tuple [.Name x px, .Name y py, .Name z pz] kt pt] (.Tuple [a, b, c] k2 pt2) env = pure (some [x, y, z]) := by
  have hb : env.blockKind = .function := by unfold Env.blockKind; rw [hk]; rfl
  have e1 : ([a, b, c].any fun | .Starred .. => true | _ => false) = false := by
    have ea : ∀ {e : Expr}, notStar e = true → (match e with | .Starred .. => true | _ => false) = false := fun {e} h => by cases e <;> first | rfl | exact Bool.noConfusion h
    simp only [List.any_cons, List.any_nil, Bool.or_false, Bool.or_eq_false_iff]
    exact ⟨ea hs, ea hs2, ea hs3⟩
  have kx : env.kindOf x = some .local := hx
  have ky : env.kindOf y = some .local := hy
  have kz : env.kindOf z = some .local := hz
  have hd : [x, y, z].eraseDups = [x, y, z] := by
    have h1 : (y == x) = false := beq_eq_false_iff_ne.mpr fun q => hxy q.symm
    have h2 : (z == x) = false := beq_eq_false_iff_ne.mpr fun q => hxz q.symm
    have h3 : (z == y) = false := beq_eq_false_iff_ne.mpr fun q => hyz q.symm
    simp [List.eraseDups_cons, h1, h2, h3]
  unfold swappedStores
  simp only [hb, e1, kx, ky, kz, hf, hc, hl, hl2, List.filterMap_cons, List.filterMap_nil, List.head?_cons, Option.map_some, Option.getD_some, Expr.pos, beq_self_eq_true, Bool.and_self, if_true, hd]
  rw [if_neg (by simp)]
  refine Eq.trans (if_neg fun z => Bool.false_ne_true (e1.symm.trans z)) ?_
  rw [if_neg (by simp)]
  rfl
theorem s_par2 {i j : Nat} {es : Es} {x y : Str} {a b : Expr} {px py pt pos : Pos} {kt k2 pt2} (hN : X.N = C.N) (hc : X.calm = true) (nd : X.N.Nodup) (hi : C.N[i]? = some x) (hj : C.N[j]? = some y) (hij : i ≠ j)
    (hx : X.env.scope.names.lookup x = some .local) (hy : X.env.scope.names.lookup y = some .local) (hw : swappedStores [.Tuple [.Name x px, .Name y py] kt pt] (.Tuple [a, b] k2 pt2) X.env = pure (some [x, y])) (h : PA X [a, b] (tA X.K XR W (evs cf cs es))) :
    PS X (.Assign [.Tuple [.Name x px, .Name y py] kt pt] (.Tuple [a, b] k2 pt2) pos) (tS X.K XR W (ex cf cs (.par [i, j] es))) :=
  ps_imp (ps_par hc nd (by rw [hN]; exact hi) (by rw [hN]; exact hj) hij hx hy h hw) fun D s H ⟨I, A, σ, m, st, sr, o⟩ => by
    have o : OutS X.K XR W D I A ((evs cf cs es σ m).st σ fun vs h1 => match setP [i, j] vs σ with
      | some σ' => .nx σ' h1
      | none => .stuck) := o
    refine ⟨I, A, σ, m, st, sr, st_bind sr o fun vs m1 I1 A1 H1 ys e1 st1 r1 o1 => ?_⟩
    cases q : setP [i, j] vs σ with
    | none => rw [q] at o1; exact o1.elim
    | some σ' =>
      rw [q] at o1
      have r1 : RRs X.K I1 A1 vs ys := r1
      match vs, ys, r1, q with
      | [v, w], [y1, y2], .cons ra (.cons rb .nil), q =>
        have q' := setP2 q
        subst q'
        exact ⟨y1, y2, rfl, o1 I1 A1 H1 _ Ext.refl st1 (((sr.mono e1).set ra).set rb)⟩
      | [], _, _, q => cases q
      | [v], _, _, q =>
        have q : (if i < σ.length then none else none) = some σ' := q
        split at q <;> cases q
      | v :: w :: z :: r, _, _, q =>
        have q : (if i < σ.length then (if j < (setS σ i v).length then none else none) else none) = some σ' := q
        split at q
        · split at q <;> cases q
        · cases q
theorem s_par3 {i j l : Nat} {es : Es} {x y z : Str} {a b c : Expr} {px py pz pt pos : Pos} {kt k2 pt2} (hN : X.N = C.N) (hc : X.calm = true) (nd : X.N.Nodup) (hi : C.N[i]? = some x) (hj : C.N[j]? = some y) (hl : C.N[l]? = some z) (hij : i ≠ j) (hil : i ≠ l) (hjl : j ≠ l)
    (hx : X.env.scope.names.lookup x = some .local) (hy : X.env.scope.names.lookup y = some .local) (hz : X.env.scope.names.lookup z = some .local) (hw : swappedStores [.Tuple [.Name x px, .Name y py, .Name z pz] kt pt] (.Tuple [a, b, c] k2 pt2) X.env = pure (some [x, y, z])) (h : PA X [a, b, c] (tA X.K XR W (evs cf cs es))) :
    PS X (.Assign [.Tuple [.Name x px, .Name y py, .Name z pz] kt pt] (.Tuple [a, b, c] k2 pt2) pos) (tS X.K XR W (ex cf cs (.par [i, j, l] es))) :=
  ps_imp (ps_par3 hc nd (by rw [hN]; exact hi) (by rw [hN]; exact hj) (by rw [hN]; exact hl) hij hil hjl hx hy hz h hw) fun D s H ⟨I, A, σ, m, st, sr, o⟩ => by
    have o : OutS X.K XR W D I A ((evs cf cs es σ m).st σ fun vs h1 => match setP [i, j, l] vs σ with
      | some σ' => .nx σ' h1
      | none => .stuck) := o
    refine ⟨I, A, σ, m, st, sr, st_bind sr o fun vs m1 I1 A1 H1 ys e1 st1 r1 o1 => ?_⟩
    cases q : setP [i, j, l] vs σ with
    | none => rw [q] at o1; exact o1.elim
    | some σ' =>
      rw [q] at o1
      have r1 : RRs X.K I1 A1 vs ys := r1
      match vs, ys, r1, q with
      | [v, w, u], [y1, y2, y3], .cons ra (.cons rb (.cons rc .nil)), q =>
        have q' := setP3 q
        subst q'
        exact ⟨y1, y2, y3, rfl, o1 I1 A1 H1 _ Ext.refl st1 ((((sr.mono e1).set ra).set rb).set rc)⟩
      | [], _, _, q => cases q
      | [v], _, _, q =>
        have q : (if i < σ.length then none else none) = some σ' := q
        split at q <;> cases q
      | [v, w], _, _, q =>
        have q : (if i < σ.length then (if j < (setS σ i v).length then none else none) else none) = some σ' := q
        split at q
        · split at q <;> cases q
        · cases q
      | v :: w :: z :: u :: r, _, _, q =>
        have q : (if i < σ.length then (if j < (setS σ i v).length then (if l < (setS (setS σ i v) j w).length then none else none) else none) else none) = some σ' := q
        split at q
        · split at q
          · split at q <;> cases q
          · cases q
        · cases q
/-! ### name op= e -/
theorem s_augAdd {i : Nat} {e : E} {id : Str} {y : Expr} {p p2 : Pos} (hN : X.N = C.N) (nd : X.N.Nodup) (hi : C.N[i]? = some id) (hl : Loc X.env.scope id ∧ (X.fn id = true ∨ X.env.scope.names.lookup id = some .local)) (h : PE X y (tE X.K XR W (ev cf cs e))) :
    PS X (.AugAssign (.Name id p2) .Add y p) (tS X.K XR W (ex cf cs (.aug i .add e))) :=
  ps_imp (ps_aug nd (by rw [hN]; exact hi) hl.1 h ip_add hl.2) fun D s H ⟨I, A, σ, m, st, sr, o⟩ => by
    have o : OutS X.K XR W D I A (match σ[i]? with
      | some (some (.v x)) => (datP (ev cf cs e σ m)).st σ fun y h1 => match aop .add x y with
        | some z => .nx (setS σ i (.v z)) h1
        | none => .stuck
      | _ => .stuck) := o
    split at o
    · rename_i x hx
      obtain ⟨y0, hy0, ry0⟩ := sr.at_ i _ hx
      rw [datP_st] at o
      refine ⟨y0, hy0, I, A, σ, m, st, sr, st_bind sr o fun v m1 I1 A1 H1 y e1 st1 r1 o1 => ?_⟩
      obtain ⟨d, m2, I2, e2, st2, d2, o1⟩ := kept_st st1 r1 o1
      cases x <;> cases d <;> first | exact o1.elim | skip
      cases ry0
      cases d2
      exact ⟨_, _, rfl, rfl, o1 I2 A1 H1 _ Ext.refl st2 ((sr.mono (e1.trans e2)).set (.int _))⟩
    · exact o.elim
theorem s_augSub {i : Nat} {e : E} {id : Str} {y : Expr} {p p2 : Pos} (hN : X.N = C.N) (nd : X.N.Nodup) (hi : C.N[i]? = some id) (hl : Loc X.env.scope id ∧ (X.fn id = true ∨ X.env.scope.names.lookup id = some .local)) (h : PE X y (tE X.K XR W (ev cf cs e))) :
    PS X (.AugAssign (.Name id p2) .Sub y p) (tS X.K XR W (ex cf cs (.aug i .sub e))) :=
  ps_imp (ps_aug nd (by rw [hN]; exact hi) hl.1 h ip_sub hl.2) fun D s H ⟨I, A, σ, m, st, sr, o⟩ => by
    have o : OutS X.K XR W D I A (match σ[i]? with
      | some (some (.v x)) => (datP (ev cf cs e σ m)).st σ fun y h1 => match aop .sub x y with
        | some z => .nx (setS σ i (.v z)) h1
        | none => .stuck
      | _ => .stuck) := o
    split at o
    · rename_i x hx
      obtain ⟨y0, hy0, ry0⟩ := sr.at_ i _ hx
      rw [datP_st] at o
      refine ⟨y0, hy0, I, A, σ, m, st, sr, st_bind sr o fun v m1 I1 A1 H1 y e1 st1 r1 o1 => ?_⟩
      obtain ⟨d, m2, I2, e2, st2, d2, o1⟩ := kept_st st1 r1 o1
      cases x <;> cases d <;> first | exact o1.elim | skip
      cases ry0
      cases d2
      exact ⟨_, _, rfl, rfl, o1 I2 A1 H1 _ Ext.refl st2 ((sr.mono (e1.trans e2)).set (.int _))⟩
    · exact o.elim
/-! ### name.append(e) -/
theorem s_app {i : Nat} {e : E} {id : Str} {y : Expr} {p ap cp pos : Pos} (hN : X.N = C.N) (hi : C.N[i]? = some id) (hv : Vis X.env.scope id) (hp : plainN id = true) (hl : (ap.endLine == cp.line) = true) (hz : notStar y = true) (h : PE X y (tE X.K XR W (ev cf cs e))) :
    PS X (.Expr (.Call (.Attribute (.Name id p) "append" ap) [y] [] cp) pos) (tS X.K XR W (ex cf cs (.app i e))) := by
  refine ps_imp (ps_expr (pe_bm PySem.F.plainAttrs_list PySem.F.slot_list_append PySem.F.type_list_append mt_append (pe_var (by rw [hN]; exact hi) hv (plainN_of hp).1 (plainN_of hp).2.1) (pa_cons h pa_nil (star_of hz)) (hfew := by rw [star_of hz]; rfl) (hline := hl) (hs := star_of hz)) rfl) fun D s H ⟨I, A, σ, m, st, sr, o⟩ => ?_
  have o : OutS X.K XR W D I A (match σ[i]? with
    | some (some (.r a)) => if a < m.length then (datP (ev cf cs e σ m)).st σ fun x h1 => match h1[a]? with
      | some (.lst xs) => if sized xs then .nx σ (h1.set a (.lst (xs ++ [x]))) else .stuck
      | _ => .stuck
      else .stuck
    | _ => .stuck) := o
  split at o
  · rename_i a ha
    split at o
    · rename_i hlt
      obtain ⟨y0, hy0, b, hb, rfl⟩ := sr.at_ i _ ha
      have ty : tyV X.K "list" (.ref b) H := lstQ_ty st (v := .r a) ⟨b, hb, rfl⟩ (decide_eq_true hlt)
      rw [datP_st] at o
      refine ⟨.ref b, hy0, ty, I, A, σ, m, st, sr, st_bind sr o fun v m1 I1 A1 H1 y e1 st1 r1 o1 => ?_⟩
      obtain ⟨d, m2, I2, e2, st2, d2, o1⟩ := kept_st st1 r1 o1
      have hb1 := e1.pre _ _ hb
      split at o1
      · rename_i xs hx
        split at o1
        · rename_i hz
          obtain ⟨_, vs, hH, dv⟩ := st2.obj a _ b hx hb1
          refine ⟨b, vs, y, rfl, rfl, hH, by rw [DpAll.len dv]; have := sized_le hz; have := line_ge; omega, ?_⟩
          exact o1 I2 A1 _ _ Ext.refl (st2.write hx hb1 (DpAll.app dv (.cons d2 .nil))) (sr.mono (e1.trans e2))
        · exact o1.elim
      · exact o1.elim
    · exact o.elim
  · exact o.elim
end
end Sd

/-! Sd: for; comprehensions as values and stores. -/
namespace Sd
open L2 PySem PySem.Spec PyProof.Rows
section
variable {K : PySem.W.Frag} {C : CK} {X : Cx} {cf : CF} {cs : List PyData} {XR : XT} {k : Nat} {W : WX}
theorem folded_of {e : Expr} (h : plainIt e = true) {env : PySem.Env} : ∀ x, foldedSetIterable e env x = pure x := by
  intro x
  cases e <;> first | rfl | exact Bool.noConfusion h
/-- what a for has done -/
def FInv (K : PySem.W.Frag) (XR : XT) (W : WX) (D : Ends) (t : Tg) (f : Sl → MH → Rs) (I1 : Hp) (A1 : Ad) (xs : List PyData) (i : Nat) (s : L2.St) (H : Hp) : Prop :=
  ∃ I A σ m, Ext I1 A1 I A ∧ ST K I A m H ∧ SR K I A σ s ∧ OutS K XR W D I A (forL t f (xs.drop i) σ m)
theorem for_key {t : Tg} {it : It} {b : Ss} {D : Ends} {s : L2.St} {H : Hp} (h : tS K XR W (ex cf cs (.for t it b)) D s H) :
    tFor (tI K XR W (evI cf cs it)) (tTg K t) (tS K XR W (exs cf cs b)) D s H := by
  obtain ⟨I, A, σ, m, st, sr, o⟩ := h
  have o : OutS K XR W D I A ((evI cf cs it σ m).st σ fun xs h1 => forL t (exs cf cs b) xs σ h1) := o
  refine ⟨I, A, σ, m, st, sr, st_bind sr o fun xs m1 I1 A1 H1 J e1 st1 w o1 => ?_⟩
  have w : Walk J xs.length (fun H => Sub I1 H) (YD K I1 xs) := w
  refine for_it w (FInv K XR W D t (exs cf cs b) I1 A1 xs) ⟨I1, A1, σ, m1, Ext.refl, st1, sr.mono e1, o1⟩ (fun i s H hi p => ?_) (fun i x s H H' hi p y => ?_) fun s H p => ?_
  · obtain ⟨I2, A2, σ2, m2, e2, st2, _⟩ := p
    exact fun b o h => st2.sub b o (e2.sub b o h)
  · obtain ⟨I2, A2, σ2, m2, e2, st2, sr2, o2⟩ := p
    obtain ⟨x0, hx, y⟩ := y
    have hdr : xs.drop i = x0 :: xs.drop (i + 1) := by
      rw [List.drop_eq_getElem_cons hi]
      congr 1
      have := List.getElem?_eq_getElem hi
      rw [this] at hx
      exact Option.some.inj hx
    rw [hdr] at o2
    obtain ⟨I3, e3, st3, dx⟩ : ∃ I3, Ext I2 A2 I3 A2 ∧ ST K I3 A2 m2 H' ∧ Dp K I3 x x0 := by
      rcases y with ⟨rfl, d⟩ | ⟨T, ws, ds, rfl, hT, rfl, rfl, d⟩
      · exact ⟨I2, Ext.refl, st2, dp_sub e2.sub d⟩
      · obtain ⟨iT, aT⟩ := st2.fresh hT
        exact ⟨upd I2 T (.tup ws), ext_upd iT, st2.addI aT iT, .tup (SqT.of upd_same) (dps_sub (sub_upd iT) (dps_sub e2.sub d))⟩
    have o3 : OutS K XR W D I3 A2 (match setT t (.v x0) σ2 with
      | some σ1 => match exs cf cs b σ1 m2 with
        | .nx σ3 h3 => forL t (exs cf cs b) (xs.drop (i + 1)) σ3 h3
        | .ct σ3 h3 => forL t (exs cf cs b) (xs.drop (i + 1)) σ3 h3
        | .bk σ3 h3 => .nx σ3 h3
        | z => z
      | none => .stuck) := OutS.mono e3 o2
    cases hs : setT t (.v x0) σ2 with
    | none => rw [hs] at o3; exact o3.elim
    | some σ' =>
    rw [hs] at o3
    dsimp only at o3
    refine ⟨I3, A2, σ2, m2, .v x0, σ', st3, sr2.mono e3, dx, hs, fun s' sr' _ => ⟨I3, A2, σ', m2, st3, sr', ?_⟩⟩
    cases q : exs cf cs b σ' m2 with
    | nx σ4 m4 =>
      rw [q] at o3
      exact fun I5 A5 H5 s5 e5 st5 sr5 => ⟨I5, A5, σ4, m4, (e2.trans e3).trans e5, st5, sr5, OutS.mono e5 o3⟩
    | ct σ4 m4 =>
      rw [q] at o3
      exact fun I5 A5 H5 s5 e5 st5 sr5 => ⟨I5, A5, σ4, m4, (e2.trans e3).trans e5, st5, sr5, OutS.mono e5 o3⟩
    | bk σ4 m4 =>
      rw [q] at o3
      exact fun I5 A5 H5 s5 e5 st5 sr5 => o3 I5 A5 H5 s5 e5 st5 sr5
    | rt v m4 =>
      rw [q] at o3
      exact o3
    | exn c zs σ4 m4 =>
      rw [q] at o3
      exact o3
    | stuck =>
      rw [q] at o3
      exact o3.elim
  · obtain ⟨I2, A2, σ2, m2, e2, st2, sr2, o2⟩ := p
    rw [List.drop_length] at o2
    exact o2 I2 A2 H s Ext.refl st2 sr2
theorem s_for {t : Tg} {it : It} {b : Ss} {tg iter : Expr} {ys : List Stmt} {p : Pos} {sc : Scope} (F : FX sc X) (hc : X.calm = true) (hi : PI X tg iter (tI X.K XR W (evI cf cs it))) (hp : plainIt iter = true) (ht : PG X tg (tTg X.K t)) (hb : PSs X ys (tS X.K XR W (exs cf cs b))) :
    PS X (.For tg iter ys [] p) (tS X.K XR W (ex cf cs (.for t it b))) :=
  ps_imp (ps_for F.own hc hi ht hb (folded_of hp)) fun D s H q => for_key q
/-! ### comprehensions -/
theorem s_comp {own : List Nat} {t : Tg} {it : It} {ifs : Es} {e : E} {elt tg iter : Expr} {fs : List Expr} {scope : Scope} {ow : List (Str × Nat)} {p : Pos} (hc : X.calm = true) (nd : X.N.Nodup) (hi : PI X tg iter (tI X.K XR W (evI cf cs it))) (hp : plainIt iter = true) (ok : BlkOk X.N X.env.scope scope ow) (how : ow.map (·.2) = own) (hsz : ∀ i ∈ tgSlots t, i ∈ own)
    (hg : ∀ (s : Shared) (H : Hp) (Cc : Addr) (cl : List (Str × Addr)) (fp : List Addr), PG (X.blk s H scope (compEnvC scope cl Cc X.env) fp) tg (tTg X.K t))
    (ht : ∀ (s : Shared) (H : Hp) (Cc : Addr) (cl : List (Str × Addr)) (fp : List Addr), PTs (X.blk s H scope (compEnvC scope cl Cc X.env) fp) fs (tT X.K XR W0 (evC cf cs ifs)))
    (he : ∀ (s : Shared) (H : Hp) (Cc : Addr) (cl : List (Str × Addr)) (fp : List Addr), PE (X.blk s H scope (compEnvC scope cl Cc X.env) fp) elt (tE X.K XR W0 (ev cf cs e))) :
    PE X (.ListComp elt [⟨tg, iter, fs, 0⟩] scope p) (tL X.K XR W (evL cf cs (.comp own t it ifs e))) := by
  subst how
  exact pe_imp (pe_lc hc nd hi ok hg ht he (folded_of hp)) fun s H Q q => comp_key hsz q
theorem s_asgComp {i : Nat} {nw : Bool} {y : Str} {py spos : Pos} {own : List Nat} {t : Tg} {it : It} {ifs : Es} {e : E} {elt tg iter : Expr} {fs : List Expr} {scope : Scope} {ow : List (Str × Nat)} {p : Pos} (hN : X.N = C.N) (hc : X.calm = true) (nd : X.N.Nodup) (hy : C.N[i]? = some y) (hyl : X.env.scope.names.lookup y = some .local)
    (hsw : swapsWith (.ListComp elt [⟨tg, iter, fs, 0⟩] scope p) (some (.Name y py)) spos.line X.env = pure true) (hi : PI X tg iter (tI X.K XR W (evI cf cs it))) (hp : plainIt iter = true) (ok : BlkOk X.N X.env.scope scope ow) (how : ow.map (·.2) = own) (hsz : ∀ i ∈ tgSlots t, i ∈ own)
    (hg : ∀ (s : Shared) (H : Hp) (Cc : Addr) (cl : List (Str × Addr)) (fp : List Addr), PG (X.blk s H scope (compEnvC scope cl Cc X.env) fp) tg (tTg X.K t))
    (ht : ∀ (s : Shared) (H : Hp) (Cc : Addr) (cl : List (Str × Addr)) (fp : List Addr), PTs (X.blk s H scope (compEnvC scope cl Cc X.env) fp) fs (tT X.K XR W0 (evC cf cs ifs)))
    (he : ∀ (s : Shared) (H : Hp) (Cc : Addr) (cl : List (Str × Addr)) (fp : List Addr), PE (X.blk s H scope (compEnvC scope cl Cc X.env) fp) elt (tE X.K XR W0 (ev cf cs e))) :
    PS X (.Assign [.Name y py] (.ListComp elt [⟨tg, iter, fs, 0⟩] scope p) spos) (tS X.K XR W (ex cf cs (.asgL i (.comp own t it ifs e) nw))) := by
  subst how
  exact ps_imp (ps_setLc hc nd (by rw [hN]; exact hy) hyl hsw hi ok hg ht he (folded_of hp)) fun D s H q => comp_key hsz (asgL_key q)
/-- a store of a cell, or on another line: the block is not left for it -/
theorem sw_false {elt : Expr} {gs : List Comprehension} {scope : Scope} {pos py : Pos} {y : Str} {l : Nat} {env : PySem.Env} (hy : env.scope.names.lookup y = some .cell) : swapsWith (.ListComp elt gs scope pos) (some (.Name y py)) l env = pure false := by
  have ky : env.kindOf y = some .cell := hy
  have hb : (some NameKind.cell == some NameKind.local) = false := by decide
  unfold swapsWith
  simp only [ky, hb, Bool.and_false, Bool.false_and]
/-- targets of a block -/
theorem gt_blk {scope : Scope} (s : Shared) (H : Hp) (Cc : Addr) (cl : List (Str × Addr)) (fp : List Addr) : GT scope (X.blk s H scope (compEnvC scope cl Cc X.env) fp) := fun id h => by
  have e : (X.blk s H scope (compEnvC scope cl Cc X.env) fp).env.scope = relS scope X.env.scope := rfl
  unfold locB at h
  split at h
  · rename_i q
    have q2 := lookup_relS_keep (sc := X.env.scope) (k := .local) (by decide) q
    exact ⟨.inl (by rw [e]; exact q2), .inr (by rw [e]; exact q2)⟩
  · rename_i q
    have q2 := lookup_relS_keep (sc := X.env.scope) (k := .cell) (by decide) q
    refine ⟨.inr (by rw [e]; exact q2), .inl ?_⟩
    show (scope.names.lookup id == some .cell) = true
    rw [q]
    rfl
  · cases h
end
end Sd

/-! Sd: raise, try. -/
namespace Sd
open L2 PySem PySem.Spec PyProof.Rows
/-- an own exception class without own __init__ -/
structure ExOk (K : PySem.W.Frag) (mg : Str → Option Value) (id base : Str) (a : Addr) : Prop where
  gm : mg id = some (.ref a)
  ex : ∃ B newId initId bmB, ExcBaseFacts B newId initId bmB ∧ PySem.W.excIn K a bmB newId = true
  kp : PySem.W.keepIn K (.ref a) = true
  sb : PySem.W.subIn K (.ref a) (.type "BaseException") = some true
  ty : PySem.W.typeIn K (.ref a) = some (.type "type")
  ec : ExcC K a
  up : ∃ B, bootBuiltins base = some (.type B) ∧ (base == ("__debug__" : Str)) = false ∧ base ≠ "__name__" ∧ mg base = none ∧ PySem.W.kitOne K (.ref a) (.type B) = some true
structure ExG (C : CK) (K : PySem.W.Frag) (mg : Str → Option Value) (XR : XT) : Prop where
  one : ∀ (c : Nat) (id : Str), C.EN[c]? = some id → ∃ a base, C.EB[c]? = some base ∧ ExOk K mg id base a ∧ (∀ I H, XR c [] (.ref a) none I H) ∧ ∀ xs cls d I H, XR c xs cls d I H → xs = [] ∧ cls = .ref a ∧ d = none
  two : ∀ (c e : Nat) (id ie : Str) (a b : Addr), C.EN[c]? = some id → C.EN[e]? = some ie → mg id = some (.ref a) → mg ie = some (.ref b) → PySem.W.exmOne K (.ref a) (.ref b) = some (decide (c = e))
  non : ∀ (c : Nat) xs cls d I H, C.EN[c]? = none → ¬ XR c xs cls d I H
section
variable {K : PySem.W.Frag} {C : CK} {X : Cx} {cf : CF} {cs : List PyData} {XR : XT} {k : Nat} {W : WX}
/-- x(), x an own class without own __init__ -/
theorem pmk_new {id base : Str} {a : Addr} {p pos : Pos} (E : ExOk X.K X.mg id base a) (hg : Gl X id) (hdb : (id == ("__debug__" : Str)) = false) : PMk X (.Call (.Name id p) [] [] pos) (fun _ H Q => Q (.ref a) none H) := by
  obtain ⟨B, newId, initId, bmB, F, q⟩ := E.ex
  intro pins s σ H Q Iv h
  refine wpAny_Call_Name_kw (ld_glob Iv hg E.gm ?_ hdb)
  refine PySem.W.callWith_K0 Iv.kIn E.kp ?_
  obtain ⟨bm, N, nm, qn, bs, hdct, sn, sub, ab, col, dd, k0, k1, k2, k3, k5, mN, hC, hN, hni, T⟩ := exc_obj Iv.kIn q
  exact wpAny_call_exc_subT F T hC hN hni (fun h' e hm => mk_of Iv hm (raises_own E.sb E.ty) h (Iv.hok.gone hm.new)) (Nat.zero_le _)
theorem s_raise {c : Nat} {id : Str} {p p2 pos : Pos} (E : ExG C X.K X.mg XR) (hc : X.calm = true) (tk : Takes X W) (hi : C.EN[c]? = some id) (hg : Gl X id) (hdb : (id == ("__debug__" : Str)) = false) :
    PS X (.Raise (some (.Call (.Name id p) [] [] p2)) none pos) (tS X.K XR W (ex cf cs (.raise c .nil))) := by
  obtain ⟨a, base, hb, O, x1, x2⟩ := E.one c id hi
  exact ps_imp (ps_raise hc tk (pmk_new O hg hdb)) fun D s H ⟨I, A, σ, m, st, sr, o⟩ => o I A H s (.ref a) none Ext.refl st sr (x1 I H)

/-! ### several except clauses, with names or without -/
abbrev Cl := Value × Option Nat × (Addr → Value → Option Addr → TS)
def unD (D : Ends) : Option Nat → Ends
  | none => D
  | some i => { nx := fun σ H => D.nx (σ.set i none) H, rt := D.rt, bk := fun σ H => D.bk (σ.set i none) H, ct := fun σ H => D.ct (σ.set i none) H }
def putN (σ : L2.St) (a : Addr) : Option Nat → L2.St
  | none => σ
  | some i => σ.set i (some (.ref a))
def wCl (K : PySem.W.Frag) (Wout : WX) (D : Ends) : List Cl → WX
  | [] => Wout
  | (c, n, ts) :: r => fun cls d σ H => ∃ b, PySem.W.exmOne K cls c = some b ∧ (b = true → ∀ a, H a = none → ts a cls d (unD D n) (putN σ a n) H) ∧ (b = false → wCl K Wout D r cls d σ H)
/-- the name of a clause -/
def NmOk (X : Cx) : Option Str → Option Nat → Prop
  | none, none => True
  | some n, some i => X.N[i]? = some n ∧ X.env.kindOf n = some .local
  | _, _ => False
inductive ClOk (X : Cx) : List ExceptHandler → List Cl → Prop
  | nil : ClOk X [] []
  | cons {x : Str} {c : Value} {n : Option Str} {i : Option Nat} {ts : Addr → Value → Option Addr → TS} {b₀ : Stmt} {suite : List Stmt} {np pos' : Pos} {hds : List ExceptHandler} {l : List Cl} (hc : Names X x c) (hn : NmOk X n i)
      (hsu : ∀ (a : Addr) (oe : Obj) (cls : Value) (d : Option Addr) (pn : List (Addr × Obj)), Zc cls d oe → (∃ vs, oe.data = .fields vs) → PSs (X.suite a ((a, oe) :: pn)) (b₀ :: suite) (ts a cls d)) (r : ClOk X hds l) :
      ClOk X (.ExceptHandler (some (.Name x np)) n (b₀ :: suite) pos' :: hds) ((c, i, ts) :: l)
theorem ps_tryCl {body : List Stmt} {h₀ : ExceptHandler} {hds : List ExceptHandler} {l : List Cl} {pos : Pos} {tb : WX → TS} {Wout : WX} (hs : X.stack = X.env :: X.outer) (hf : X.env.frame = some X.env.locals) (hN : X.N.Nodup) (tk : Takes X Wout)
    (hb : ∀ (W : WX) (pn : List (Addr × Obj)) (xe : Value → Shared → Prop), Takes (X.tr pn xe) W → PassesOwn (model X.prog X.w) X.A X.env xe → PSs (X.tr pn xe) body (tb W))
    (hh : ClOk X (h₀ :: hds) l) : PS X (.Try body (h₀ :: hds) [] [] pos) (fun D σ H => tb (wCl X.K Wout D l) D σ H) := by
  refine ⟨fun pins s σ H D Iv h => ?_⟩
  have ok := Iv.ok
  have hfr : X.A.frames = some (X.env :: X.outer) := by
    rw [ok.frames]
    rw [hs]
  refine wpAny_Try_except ?_
  let land : Value → Shared → Prop := fun e s₁ => wpAny (model X.prog X.w) X.A (noteFrame e X.env) (fun _ s₂ => wpAny (model X.prog X.w) X.A (setFlight e none) (fun _ s₃ => wpAny (model X.prog X.w) X.A (handleBy e X.env (h₀ :: hds)) (SP X pins D) X.xe s₃) X.xe s₂) X.xe s₁
  have tkB : Takes (X.tr (X.pn ++ pins) land) (wCl X.K Wout D l) := by
    intro u s' xx
    obtain ⟨a, B, sI, pins', σ', H', cls, d, rfl, J', nb, up, sky, na, os, ag, w⟩ := xx
    have J : Inv X pins σ' H' sI := Inv.ofTry J' ok
    have sky' : Sky B (X.env :: X.outer) a (Zc cls d) X.env.locals s'.heap := hs ▸ sky
    refine Sky.land (A := X.A) Zc.steady hfr hf sky' fun h3 fl3 up3 => ?_
    have J3 : Inv X pins σ' H' { s' with heap := h3 } := Inv.landed J nb fl3.1 (up.trans up3) os ag
    obtain ⟨oe3, vs3, he3, hz3, hd3⟩ := fl3.there
    have nfr : a ∉ frs (X.env :: X.outer) := fun hm => by
      obtain ⟨_, o', e', hnf⟩ := fl3.2.2.1.mem hm
      cases he3.symm.trans e'
      exact hnf _ hd3
    have nL : a ≠ X.env.locals := fun z => nfr (List.mem_filterMap.mpr ⟨X.env, List.mem_cons_self .., hf.trans (congrArg some z.symm)⟩)
    have nF : a ∉ X.fs := fun hm => by
      obtain ⟨e, he, q⟩ := List.mem_filterMap.mp hm
      exact nfr (List.mem_filterMap.mpr ⟨e, List.mem_cons_of_mem _ he, q⟩)
    have S3 := Inv.suite J3 he3 hd3 na nL nF
    suffices go : ∀ {hds' : List ExceptHandler} {l' : List Cl}, ClOk X hds' l' → wCl X.K Wout D l' cls d σ' H' → wpAny (model X.prog X.w) X.A (handleBy (.ref a) X.env hds') (SP X pins D) X.xe { s' with heap := h3 } from go hh w
    intro hds' l' hk
    induction hk with
    | nil =>
      intro w
      refine wpAny_handleBy_nil ?_
      obtain ⟨_, _, _, oe, vs, T, _, _, he, _, hd, h1, _⟩ := id fl3
      unfold PySem.passOn
      refine wpAny_bind (wpAny_field he hd h1 ?_)
      have nz : ¬ ((Value.ref T == Value.none) = true) := by simp
      rw [if_neg nz]
      have rest : wpAny (model X.prog X.w) X.A (setFlight (.ref a) X.env.frame) (fun _ s4 => wpAny (model X.prog X.w) X.A (throw (.ref a) : Sem Flow) (SP X pins D) X.xe s4) X.xe { s' with heap := h3 } := by
        rw [hf]
        refine HandSPX.setFlight_upZ fl3 fun h4 hh4 up4 => wpAny_throw (tk _ _ ⟨a, B, sI, pins, σ', H', cls, d, rfl, J, nb, (up.trans up3).trans up4, ?_, na, os, ag, w⟩)
        rw [hs]
        exact .inr (.inr hh4)
      first
        | exact wpAny_bind (wpAny_pure (wpAny_bind rest))
        | exact wpAny_bind rest
    | @cons x c n i ts b₀ suite np pos' hds2 l2 hc hn hsu r ih =>
      intro w
      obtain ⟨b, hb1, hyes, hno⟩ := w
      refine wpAny_handleBy_cons (codeAny_handlers_test ?_) (by intro q; cases q)
      have LT : PySem.W.Looks (model X.prog X.w) h3 (typeOf (.ref a)) cls := fun A Q E s k q => wpAny_typeOf_ref (k _ _ he3) (hz3.1.symm ▸ q)
      have LM := PySem.W.exm_one (M := model X.prog X.w) (J3.kIn) LT hb1
      have asked : ∀ {Q : Value → Shared → Prop} {E : Value → Shared → Prop}, Q c { s' with heap := h3 } → wpAny (model X.prog X.w) (X.A.mark (some (.ref a))) (eval (.Name x np) X.env) Q E { s' with heap := h3 } := fun {Q E} q => by
        rcases hc with ⟨hg, hdbg, hm | ⟨hm, hv, hnn⟩⟩
        · exact ld_glob (X := X.suite a ((a, oe3) :: (X.pn ++ pins))) S3 hg hm q hdbg
        · exact ld_blt (X := X.suite a ((a, oe3) :: (X.pn ++ pins))) S3 hg hm hv q hnn hdbg
      refine asked (LM.here ?_)
      cases b with
      | false => exact ih (hno rfl)
      | true =>
        have y := hyes rfl a na
        match n, i, hn with
        | none, none, _ =>
          refine codeAny_handlers_suite (HandSPX.lands_againZ fl3 fun h4 fl4 up4 => ?_)
          have J4 : Inv X pins σ' H' { s' with heap := h4 } := Inv.landed J nb fl4.1 ((up.trans up3).trans up4) os ag
          obtain ⟨oe4, vs4, he4, hz4, hd4⟩ := fl4.there
          have S4 := Inv.suite J4 he4 hd4 na nL nF
          refine wpAny_mono ((hsu a oe4 cls d (X.pn ++ pins) hz4 ⟨_, hd4⟩).run [] _ _ H' _ S4 y) (fun f s6 hsp => ?_) (fun _ _ z => z.elim)
          match f, hsp with
          | .next, ⟨_, _, S6, q6⟩ => exact ⟨_, _, S6.unsuite ok, q6⟩
          | .brk, ⟨_, _, S6, q6⟩ => exact ⟨_, _, S6.unsuite ok, q6⟩
          | .cont, ⟨_, _, S6, q6⟩ => exact ⟨_, _, S6.unsuite ok, q6⟩
          | .ret _, ⟨_, _, _, S6, r6, q6⟩ => exact ⟨_, _, _, S6.unsuite ok, r6, q6⟩
        | some n, some i, ⟨hi, hln⟩ =>
          refine codeAny_handlers_suite_as (HandSPX.lands_againZ fl3 fun h4 fl4 up4 => ?_)
          have J4 : Inv X pins σ' H' { s' with heap := h4 } := Inv.landed J nb fl4.1 ((up.trans up3).trans up4) os ag
          obtain ⟨oe4, vs4, he4, hz4, hd4⟩ := fl4.there
          have S4 := Inv.suite J4 he4 hd4 na nL nF
          refine store_ok (X := X.suite a ((a, oe4) :: (X.pn ++ pins))) (v := .ref a) S4 hN hi (.inl hln) rfl (fun s5 S5 => ?_) (.inr hln)
          refine wpAny_mono ((hsu a oe4 cls d (X.pn ++ pins) hz4 ⟨_, hd4⟩).run [] s5 _ H' _ S5 y) (fun f s6 hsp => ?_) (fun _ _ z => z.elim)
          match f, hsp with
          | .next, ⟨_, _, S6, q6⟩ => exact gone_ok (S6.unsuite ok) hN hi hln fun s7 J7 => ⟨_, _, J7, q6⟩
          | .brk, ⟨_, _, S6, q6⟩ => exact gone_ok (S6.unsuite ok) hN hi hln fun s7 J7 => ⟨_, _, J7, q6⟩
          | .cont, ⟨_, _, S6, q6⟩ => exact gone_ok (S6.unsuite ok) hN hi hln fun s7 J7 => ⟨_, _, J7, q6⟩
          | .ret _, ⟨_, _, _, S6, r6, q6⟩ => exact gone_ok (S6.unsuite ok) hN hi hln fun s7 J7 => ⟨_, _, _, J7, r6, q6⟩
  refine wpAny_mono ((hb (wCl X.K Wout D l) (X.pn ++ pins) land tkB PassesOwn.looking).run [] s σ H D (Inv.toTry Iv _) h) (fun f s1 hsp => ?_) (fun e s1 he => he)
  match f, hsp with
  | .next, ⟨σ', H', J', q⟩ => exact wpAny_execs_nil ⟨σ', H', J'.ofTry ok, q⟩
  | .brk, ⟨σ', H', J', q⟩ => exact ⟨σ', H', J'.ofTry ok, q⟩
  | .cont, ⟨σ', H', J', q⟩ => exact ⟨σ', H', J'.ofTry ok, q⟩
  | .ret _, ⟨v, σ', H', J', r, q⟩ => exact ⟨v, σ', H', J'.ofTry ok, r, q⟩
end
end Sd

/-! Sd: calls by keywords and of an item of a list, chained tests, except suites. -/
namespace Sd
open L2 PySem PySem.Spec PyProof.Rows
section
variable {K : PySem.W.Frag} {C : CK} {X : Cx} {cf : CF} {cs : List PyData} {XR : XT} {k : Nat} {W : WX}
theorem s_cmp2T {o1 o2 : Cop} {a b c : E} {x y z : Expr} {p : Pos} (g : G C cf cs XR k X) (hy : setFree y = true) (hz : setFree z = true) (ha : PE X x (tE X.K XR W (ev cf cs a))) (hb : PE X y (tE X.K XR W (ev cf cs b))) (hc : PE X z (tE X.K XR W (ev cf cs c))) :
    PT X (.Compare x [copX o1, copX o2] [y, z] p) (tT X.K XR W (evB cf cs (.cmp2 o1 o2 a b c))) := pt_imp (pt_chain (o_cop o1 g.calm g.hu g.hu1) (o_cop o2 g.calm g.hu g.hu1) ha hb hc (last_of hz)) fun s H Q h =>
  tB_of (te := tChain _ _ _ _ _) (fun Q' q => cmp2_key q) (fun _ _ => boolR_cmp2) h

/-! ### keywords -/
theorem pickG_rel : ∀ {perm : List Nat} {vs : List V} {us : List Value} {ws : List V}, Vals vs us → pick vs perm = some ws → ∃ xs, pick us perm = some xs ∧ Vals ws xs
  | [], _, _, _, r, e => by cases e; exact ⟨[], rfl, .nil⟩
  | i :: p, vs, us, ws, r, e => by
    unfold pick at e
    cases q1 : vs[i]? with
    | none => rw [q1] at e; cases e
    | some v =>
      cases q2 : pick vs p with
      | none => rw [q1, q2] at e; cases e
      | some l =>
        rw [q1, q2] at e
        cases e
        obtain ⟨u, hu, ru⟩ := r.get q1
        obtain ⟨xs, hx, rx⟩ := pickG_rel r q2
        refine ⟨u :: xs, ?_, .cons ru rx⟩
        unfold pick
        rw [hu, hx]
theorem pick_rr {I : Hp} {A : Ad} : ∀ {perm : List Nat} {vs ws : List RV} {ys : List V}, RRs K I A vs ys → pick vs perm = some ws → ∃ zs, pick ys perm = some zs ∧ RRs K I A ws zs
  | [], _, _, _, r, e => by cases e; exact ⟨[], rfl, .nil⟩
  | i :: p, vs, ws, ys, r, e => by
    unfold pick at e
    cases q1 : vs[i]? with
    | none => rw [q1] at e; cases e
    | some v =>
      cases q2 : pick vs p with
      | none => rw [q1, q2] at e; cases e
      | some l =>
        rw [q1, q2] at e
        cases e
        obtain ⟨u, hu, ru⟩ := r.get q1
        obtain ⟨xs, hx, rx⟩ := pick_rr r q2
        refine ⟨u :: xs, ?_, .cons ru rx⟩
        unfold pick
        rw [hu, hx]
/-- names and values of keywords -/
def tK (K : PySem.W.Frag) (XR : XT) (W : WX) (f : Sl → MH → Re (List RV)) : TA := tG K XR (relEs K) W f
theorem kw_ok {sc : Scope} {es : Es} : ∀ {names : List Str} {kws : List Keyword} {env : PySem.Env} {pos : Pos}, ckKs C sc es names kws = true → (backToKw pos (keywordEach kws env)).all (·.1.isSome) = true ∧ (backToKw pos (keywordEach kws env)).filterMap (·.1) = names ∧ (backToKw pos (keywordEach kws env)).any (·.1.isNone) = false := by
  intro names kws env pos h
  induction kws generalizing es names with
  | nil =>
    cases es <;> cases names <;> first | exact ⟨rfl, rfl, rfl⟩ | (unfold ckKs at h; exact Bool.noConfusion h)
  | cons kw kws ih =>
    obtain ⟨m, x, p⟩ := kw
    cases es <;> cases names <;> cases m <;> first | (unfold ckKs at h; exact Bool.noConfusion h) | skip
    rename_i e es n ns m
    unfold ckKs at h
    simp only [Bool.and_eq_true] at h
    obtain ⟨h1, h2, h3⟩ := ih h.2
    have en : n = m := of_decide_eq_true h.1.1
    subst en
    refine ⟨?_, ?_, ?_⟩
    · show (true && (backToKw pos (keywordEach kws env)).all (·.1.isSome)) = true
      rw [h1]; rfl
    · show n :: (backToKw pos (keywordEach kws env)).filterMap (·.1) = n :: ns
      rw [h2]
    · show (false || (backToKw pos (keywordEach kws env)).any (·.1.isNone)) = false
      rw [h3]; rfl
theorem pk_imp {kws : List Keyword} {t t' : TA} (h : PK X kws t) (k : ∀ s H Q, t' s H Q → t s H Q) : PK X kws t' := ⟨fun pos pins s σ H Q I q => h.run pos pins s σ H Q I (k σ H Q q)⟩
theorem s_kw0 : PK X [] (tA X.K XR W (evs cf cs .nil)) := pk_imp pk_nil fun s H Q ⟨I, A, σ, m, st, sr, o⟩ => o I A H [] Ext.refl st .nil
theorem s_kw {e : E} {es : Es} {x : Expr} {nm : Option Str} {p : Pos} {kws : List Keyword} (h : PE X x (tE X.K XR W (ev cf cs e))) (hr : PK X kws (tA X.K XR W (evs cf cs es))) : PK X (⟨nm, x, p⟩ :: kws) (tA X.K XR W (evs cf cs (.cons e es))) :=
  pk_imp (pk_cons h hr) fun s H Q ⟨I, A, σ, m, st, sr, o⟩ => by
    have o : Out X.K XR (relEs X.K) W s I A ((ev cf cs e σ m).bind fun x h1 => (evs cf cs es σ h1).bind fun xs h2 => .ok (x :: xs) h2) Q := o
    refine ⟨I, A, σ, m, st, sr, Out.bind o fun v m1 I1 A1 H1 y1 e1 st1 r1 o1 => ?_⟩
    refine ⟨I1, A1, σ, m1, st1, sr.mono e1, Out.bind o1 fun vs m2 I2 A2 H2 ys e2 st2 r2 o2 => ?_⟩
    exact o2 I2 A2 H2 _ Ext.refl st2 (.cons (RR.mono e2 r1) r2)
theorem s_callK {sc : Scope} {g : Nat} {ks : Es} {names : List Str} {perm : List Nat} {id : Str} {kws : List Keyword} {p pos : Pos} (G0 : G C cf cs XR k X) (tk : Takes X W) (hf : C.FN[g]? = some id) (hg : Gl X id) (hp : plainN id = true) (hk : ckKs C sc ks names kws = true) (hw : (g, names, perm) ∈ C.KW) (h : PK X kws (tA X.K XR W (evs cf cs ks))) :
    PE X (.Call (.Name id p) [] kws pos) (tE X.K XR W (ev cf cs (.callK g ks names perm))) := by
  obtain ⟨f, fd, ps, hm, hkp, hb, F, kb⟩ := G0.fns g id hf
  have kb := kb names perm hw
  obtain ⟨k1, k2, k3⟩ := kw_ok (env := X.env) (pos := pos) hk
  refine ⟨fun pins s σ H Q Iv q => ?_⟩
  obtain ⟨I, A, σ0, m, st, sr, o⟩ := q
  have o : Out X.K XR (relE X.K) W σ I A ((evs cf cs ks σ0 m).bind fun vs h1 => match pick vs perm with
    | some ws => cf g ws h1
    | none => .stuck) Q := o
  refine wpAny_Call_Name_kw (ld_glob Iv hg hm ?_ (plainN_of hp).1)
  refine PySem.W.callWith_KW0 (h₀ := X.base) Iv.ok.mod.kin hkp k1 ?_ (by rw [k3]; rfl)
  have key : tA X.K XR W (evs cf cs ks) σ H fun ys H1 => ∃ zs, pick ys perm = some zs ∧ spOf X.K XR cf g zs H1 Q (WE W σ) := by
    refine ⟨I, A, σ0, m, st, sr, Out.bind o fun vs m1 I1 A1 H1 ys e1 st1 r1 o1 => ?_⟩
    cases q : pick vs perm with
    | none => rw [q] at o1; exact o1.elim
    | some ws =>
      rw [q] at o1
      obtain ⟨zs, hz, rz⟩ := pick_rr r1 q
      exact ⟨zs, hz, I1, A1, m1, ws, st1, rz, o1.atS⟩
  refine thn (h.run pos pins s σ H _ Iv key) fun us s1 ⟨ys, H1, I1, r, zs, hz, q⟩ => ⟨I1.kIn, ?_⟩
  rw [k2]
  have e1 : gK perm ([] : List V) ys = zs := by
    show (pick ys perm).getD [] = zs
    rw [hz]; rfl
  have q' : spOf X.K XR cf g (gK perm [] ys) H1 Q (WE W σ) := by rw [e1]; exact q
  have r2 := kb.rel (vs := []) (us := []) .nil r
  have hl : (gK perm [] us).length = ps.length := by rw [← r2.length]; exact F.len _ _ _ _ q'
  refine wpAny_call (codeAny_mono (F.run X.A X.stack s1 H1 ⟨[], names.zip us⟩ (gK perm [] us) (gK perm [] ys) Q (WE W σ) G0.room I1.env0 (kb.to s1 [] us I1.kIn hl) r2 q') fun r s' hq => ?_)
  match r, hq with
  | .error e, hq => exact passAt tk σ pins H1 s1 e s' I1 hq
  | .ok (.ret u), hq => exact I1.after hq
  | .ok .next, hq => exact False.elim hq
  | .ok .brk, hq => exact False.elim hq
  | .ok .cont, hq => exact False.elim hq

/-! ### an item of a list of defs, called -/
theorem fs_ok (G0 : G C cf cs XR k X) : ∀ {gs : List Nat} {xs : List Expr}, ckFs C X.env.scope gs xs = true →
    ∃ fas : List Addr, fas.length = gs.length ∧ PA X xs (fun _ H Q => Q (fas.map V.ref) H) ∧ xs.all notStar = true ∧ ∀ (j g : Nat), gs[j]? = some g → ∃ (f : Addr) (fd : FuncData) (ps : List Str), fas[j]? = some f ∧ PySem.W.keepIn X.K (.ref f) = true ∧ Binds X.K fd ps [] ∧ FnOk X.prog X.w X.K X.mg X.base (L2.CX X.prog X.w) k f fd ps (spOf X.K XR cf g)
  | [], [], _ => ⟨[], rfl, pa_imp pa_nil fun s H Q q => q, rfl, fun j g h => by simp at h⟩
  | [], _ :: _, h => by unfold ckFs at h; exact Bool.noConfusion h
  | _ :: _, [], h => by unfold ckFs at h; exact Bool.noConfusion h
  | g :: gs, x :: xs, h => by
    cases x <;> first | (unfold ckFs at h; exact Bool.noConfusion h) | skip
    rename_i id p
    unfold ckFs at h
    simp only [Bool.and_eq_true] at h
    obtain ⟨⟨⟨h1, h2⟩, h3⟩, h4⟩ := h
    obtain ⟨f, fd, ps, hm, hk, hb, F, _⟩ := G0.fns g id (of_decide_eq_true h1)
    obtain ⟨fas, l, pa, ns, al⟩ := fs_ok G0 h4
    refine ⟨f :: fas, by rw [List.length_cons, List.length_cons, l], pa_imp (pa_cons (pe_glob (v := .ref f) (gl_of h2) hm rfl (plainN_of h3).1) pa (star_of rfl)) fun s H Q q => q, by rw [List.all_cons, ns]; rfl, fun j g' e => ?_⟩
    cases j with
    | zero =>
      simp at e
      subst e
      exact ⟨f, fd, ps, rfl, hk, hb, F⟩
    | succ j => exact al j g' (by simpa using e)
theorem s_callS {gs : List Nat} {i : E} {es : Es} {fs : List Expr} {x y : Expr} {ys : List Expr} {p1 p2 pos : Pos} (G0 : G C cf cs XR k X) (tk : Takes X W) (hf : ckFs C X.env.scope gs fs = true) (hx : plainSl x = true) (hl : gs.length ≤ 1000) (hs : (y :: ys).all notStar = true) (hi : PE X x (tE X.K XR W (ev cf cs i))) (h : PA X (y :: ys) (tA X.K XR W (evs cf cs es))) :
    PE X (.Call (.Subscript (.List fs p1) x p2) (y :: ys) [] pos) (tE X.K XR W (ev cf cs (.callS gs i es))) := by
  obtain ⟨fas, hfl, pa, ns, al⟩ := fs_ok G0 hf
  refine ⟨fun pins s σ H Q Iv q => ?_⟩
  obtain ⟨I, A, σ0, m, st, sr, o⟩ := q
  have o : Out X.K XR (relE X.K) W σ I A ((datP (ev cf cs i σ0 m)).bind fun x h1 => match x with
    | .int k => match ixN gs.length k with
      | some j => match gs[j]? with
        | some g => (evs cf cs es σ0 h1).bind fun vs h2 => cf g vs h2
        | none => .stuck
      | none => .stuck
    | _ => .stuck) Q := o
  rw [datP_bind] at o
  have idx : PE X (.Subscript (.List fs p1) x p2) (tOp (rIxL X.K) (tLst fun _ H Q => Q (fas.map V.ref) H) (tE X.K XR W (ev cf cs i))) := pe_ix ix_list (pe_lst pa) hi (plainIx_of hx)
  refine Call_ (thn (idx.run pins s σ H (fun z H1 => ∃ (f : Addr) (g : Nat) (fd : FuncData) (ps : List Str), z = .ref f ∧ PySem.W.keepIn X.K (.ref f) = true ∧ Binds X.K fd ps [] ∧ FnOk X.prog X.w X.K X.mg X.base (L2.CX X.prog X.w) k f fd ps (spOf X.K XR cf g) ∧
    ∃ I1 A1 m1, ST X.K I1 A1 m1 H1 ∧ SR X.K I1 A1 σ0 σ ∧ Out X.K XR (relE X.K) W σ I1 A1 ((evs cf cs es σ0 m1).bind fun vs h2 => cf g vs h2) Q) Iv ⟨by rw [List.length_map, hfl]; have := line_ge; omega, fun q hq => ?_⟩) fun u s1 hu => ?_)
  · obtain ⟨hI, hA⟩ := st.fresh hq
    have st1 := st.addI (o := .lst (fas.map V.ref)) hA hI
    refine ⟨_, A, σ0, m, st1, sr.mono (ext_upd hI), Out.bind (Out.mono (ext_upd hI) o) fun v m2 I2 A2 H2 y2 e2 st2 r2 o2 => ?_⟩
    obtain ⟨d, m3, I3, e3, st3, d3, o3⟩ := kept_ok st2 r2 o2
    cases d3 <;> first | exact o3.elim | skip
    rename_i kk
    have o3 : Out X.K XR (relE X.K) W σ I3 A2 (match ixN gs.length kk with
      | some j => match gs[j]? with
        | some g => (evs cf cs es σ0 m3).bind fun vs h2 => cf g vs h2
        | none => .stuck
      | none => .stuck) Q := o3
    cases q1 : ixN gs.length kk with
    | none => rw [q1] at o3; exact o3.elim
    | some j =>
      rw [q1] at o3
      dsimp only at o3
      cases q2 : gs[j]? with
      | none => rw [q2] at o3; exact o3.elim
      | some g =>
        rw [q2] at o3
        obtain ⟨f, fd, ps, hfa, hk, hb, F⟩ := al j g q2
        refine ⟨q, fas.map V.ref, kk, .ref f, rfl, rfl, SqL.of (st3.sub _ _ ((e2.trans e3).sub _ _ upd_same)), ?_, f, g, fd, ps, rfl, hk, hb, F, I3, A2, m3, st3, sr.mono ((ext_upd hI).trans (e2.trans e3)), o3⟩
        show ((L2.ixN (fas.map V.ref).length kk).bind fun j => (fas.map V.ref)[j]?) = some (.ref f)
        have q1' : L2.ixN (fas.map V.ref).length kk = some j := by rw [List.length_map, hfl]; exact q1
        rw [q1']
        show (fas.map V.ref)[j]? = some (.ref f)
        rw [List.getElem?_map, hfa]
        rfl
  · obtain ⟨z, H1, Iv1, rz, f, g, fd, ps, rfl, hk, hb, F, I1, A1, m1, st1, sr1, o1⟩ := hu
    obtain rfl : u = Value.ref f := rz
    simp only [List.all_cons, Bool.and_eq_true] at hs
    have key : tCallS (spOf X.K XR cf g) (WE W) (tA X.K XR W (evs cf cs es)) σ H1 Q :=
      ⟨I1, A1, σ0, m1, st1, sr1, Out.bind o1 fun vs m2 I2 A2 H2 ws e2 st2 r2 o2 => ⟨I2, A2, m2, vs, st2, r2, o2.atS⟩⟩
    refine PySem.W.callWith_K (h₀ := X.base) Iv1.ok.mod.kin hk (thn (h.run pos pins s1 σ H1 _ Iv1 key) fun us s2 ⟨vs, H2, Iv2, r, q⟩ => ⟨Iv2.kIn, ?_⟩) (star_of hs.1) (plain_of hs.2)
    exact run_fnS F G0.room hb (passAt tk σ) Iv2 r q
/-! ### except suites -/
/-- the name of the clause holds the exception -/
def NmAt (a : Addr) (n : Option Nat) (s : L2.St) : Prop := ∀ i, n = some i → s[i]? = some (some (.ref a))
def tHV (K : PySem.W.Frag) (a : Addr) (n : Option Nat) (x : PyData) : TE := fun s H Q => NmAt a n s ∧ ∃ I A m, ST K I A m H ∧ ∀ I' H' y, Ext I A I' A → ST K I' A m H' → Dp K I' y x → Q y H'
def tHVs (K : PySem.W.Frag) (a : Addr) (n : Option Nat) (xs : List PyData) : TA := fun s H Q => NmAt a n s ∧ ∃ I A m, ST K I A m H ∧ ∀ I' H' ys, Ext I A I' A → ST K I' A m H' → DpAll K I' ys xs → Q ys H'
mutual
theorem hv_ok {sc : Scope} {a D : Addr} {oe : Obj} {pn : List (Addr × Obj)} {nm : Option Str} {n : Option Nat} {base : Str} {id : Str} (hsc : X.env.scope = sc) (hN : X.N = C.N) (bi : X.mg "isinstance" = none) (O : ExOk X.K X.mg id base D) (hz : Zc (.ref D) none oe) (hf : ∃ vs, oe.data = .fields vs) (hn : NmOk X nm n) :
    ∀ (v : HV) (x : Expr), ckHV C sc nm base v x = true → PE (X.suite a ((a, oe) :: pn)) x (tHV X.K a n (hv v))
  | .non, x, h => by
    cases x <;> first | (unfold ckHV at h; exact Bool.noConfusion h) | skip
    rename_i c _ _
    cases c <;> first | (unfold ckHV at h; exact Bool.noConfusion h) | skip
    exact pe_imp pe_non fun s H Q ⟨_, I, A, m, st, q⟩ => q I H _ Ext.refl st .non
  | .bl b, x, h => by
    cases x <;> first | (unfold ckHV at h; exact Bool.noConfusion h) | skip
    rename_i c _ _
    cases c <;> first | (unfold ckHV at h; exact Bool.noConfusion h) | skip
    rename_i b'
    unfold ckHV at h
    have e : b = b' := by simpa using h
    subst e
    exact pe_imp pe_bl fun s H Q ⟨_, I, A, m, st, q⟩ => q I H _ Ext.refl st (.bl b)
  | .int i, x, h => by
    cases x <;> first | (unfold ckHV at h; exact Bool.noConfusion h) | skip
    rename_i c _ _
    cases c <;> first | (unfold ckHV at h; exact Bool.noConfusion h) | skip
    rename_i b'
    unfold ckHV at h
    have e : i = b' := of_decide_eq_true h
    subst e
    exact pe_imp pe_int fun s H Q ⟨_, I, A, m, st, q⟩ => q I H _ Ext.refl st (.int i)
  | .str z, x, h => by
    cases x <;> first | (unfold ckHV at h; exact Bool.noConfusion h) | skip
    rename_i c _ _
    cases c <;> first | (unfold ckHV at h; exact Bool.noConfusion h) | skip
    rename_i b'
    unfold ckHV at h
    have e : z.toArray = b'.cps := of_decide_eq_true h
    have e2 : (⟨z.toArray⟩ : Str) = b' := by rw [e]
    exact pe_imp pe_str fun s H Q ⟨_, I, A, m, st, q⟩ => q I H _ Ext.refl st (by show Dp X.K I _ (.str ⟨z.toArray⟩); rw [e2]; exact .str b')
  | .tup vs, x, h => by
    cases x <;> first | (unfold ckHV at h; exact Bool.noConfusion h) | skip
    rename_i xs _ _
    unfold ckHV at h
    rw [Bool.and_eq_true] at h
    obtain ⟨pa, hl⟩ := hvs_ok hsc hN bi O hz hf hn vs xs h.1
    have hlen : xs.length ≤ 1000 := of_decide_eq_true h.2
    exact pe_imp (pe_tup pa) fun s H Q ⟨hnm, I, A, m, st, q⟩ => ⟨hnm, I, A, m, st, fun I' H' ys e st' d => ⟨by rw [DpAll.len d, hl]; have := line_ge; omega, new_tup st' d fun I2 H2 y2 e2 st2 d2 => q I2 H2 y2 (e.trans e2) st2 d2⟩⟩
  | .lst vs, x, h => by
    cases x <;> first | (unfold ckHV at h; exact Bool.noConfusion h) | skip
    rename_i xs _
    unfold ckHV at h
    rw [Bool.and_eq_true] at h
    obtain ⟨pa, hl⟩ := hvs_ok hsc hN bi O hz hf hn vs xs h.1
    have hlen : xs.length ≤ 1000 := of_decide_eq_true h.2
    refine pe_imp (pe_lst pa) fun s H Q ⟨hnm, I, A, m, st, q⟩ => ⟨hnm, I, A, m, st, fun I' H' ys e st' d => ⟨by rw [DpAll.len d, hl]; have := line_ge; omega, fun p hp => ?_⟩⟩
    obtain ⟨hI, hA⟩ := st'.fresh hp
    exact q _ _ _ (e.trans (ext_upd hI)) (st'.addI hA hI) (.lst (SqL.of upd_same) (dps_sub (sub_upd hI) d))
  | .isx, x, h => by
    subst hsc
    unfold ckHV at h
    split at h <;> first | exact Bool.noConfusion h | skip
    all_goals first | (rename_i e; exact HV.noConfusion e) | skip
    rename_i id2 p1 n2 p2 b2 p3 p4 _
    simp only [Bool.and_eq_true] at h
    obtain ⟨⟨⟨⟨⟨⟨⟨h1, h2⟩, h3⟩, h4⟩, h5⟩, h6⟩, h7⟩, h8⟩ := h
    have e1 : id2 = ("isinstance" : Str) := of_decide_eq_true h1
    have e3 : nm = some n2 := of_decide_eq_true h3
    have e4 : b2 = base := of_decide_eq_true h4
    subst e1 e3 e4
    obtain ⟨B, u1, u2, u3, u4, u5⟩ := O.up
    cases n with
    | none => exact hn.elim
    | some i =>
      obtain ⟨n1, n2'⟩ := hn
      refine pe_imp (pe_callB (X := X.suite a ((a, oe) :: pn)) (call_isE O.ec hz hf) (gl_of h2) bi boot_isi (pa_cons (pe_var n1 (vis_of h6) (plainN_of h7).1 (plainN_of h7).2.1) (pa_cons (pe_bltn (v := .ty B) (gl_of h5) u4 u1 rfl u3 u2) pa_nil (star_of rfl)) (star_of rfl)) (he := star_of rfl)) fun s H Q ⟨hnm, I, A, m, st, q⟩ => ?_
      exact ⟨.ref a, hnm i rfl, .ty B, .type B, true, rfl, fun u r => r, u5, q I H _ Ext.refl st (.bl true)⟩
theorem hvs_ok {sc : Scope} {a D : Addr} {oe : Obj} {pn : List (Addr × Obj)} {nm : Option Str} {n : Option Nat} {base : Str} {id : Str} (hsc : X.env.scope = sc) (hN : X.N = C.N) (bi : X.mg "isinstance" = none) (O : ExOk X.K X.mg id base D) (hz : Zc (.ref D) none oe) (hf : ∃ vs, oe.data = .fields vs) (hn : NmOk X nm n) :
    ∀ (vs : HVs) (xs : List Expr), ckHVs C sc nm base vs xs = true → PA (X.suite a ((a, oe) :: pn)) xs (tHVs X.K a n (hvs vs)) ∧ (hvs vs).length = xs.length
  | .nil, [], h => ⟨pa_imp pa_nil fun s H Q ⟨_, I, A, m, st, q⟩ => q I H [] Ext.refl st .nil, rfl⟩
  | .nil, _ :: _, h => by unfold ckHVs at h; exact Bool.noConfusion h
  | .cons v vs, [], h => by unfold ckHVs at h; exact Bool.noConfusion h
  | .cons v vs, x :: xs, h => by
    unfold ckHVs at h
    simp only [Bool.and_eq_true] at h
    obtain ⟨pa, hl⟩ := hvs_ok hsc hN bi O hz hf hn vs xs h.2
    refine ⟨pa_imp (pa_cons (hv_ok hsc hN bi O hz hf hn v x h.1.2) pa (star_of h.1.1)) fun s H Q ⟨hnm, I, A, m, st, q⟩ => ⟨hnm, I, A, m, st, fun I1 H1 y e1 st1 d1 => ⟨hnm, I1, A, m, st1, fun I2 H2 ys e2 st2 d2 => q I2 H2 _ (e1.trans e2) st2 (.cons (dp_sub e2.sub d1) d2)⟩⟩, ?_⟩
    show (hvs vs).length + 1 = xs.length + 1
    rw [hl]
end
end
end Sd

/-! Sd: try. -/
namespace Sd
open L2 PySem PySem.Spec PyProof.Rows
section
variable {K : PySem.W.Frag} {C : CK} {X : Cx} {cf : CF} {cs : List PyData} {XR : XT} {k : Nat} {W : WX}
theorem nm_of {sc : Scope} (hN : X.N = C.N) (hsc : X.env.scope = sc) : ∀ {i : Option Nat} {n : Option Str}, ckNm C sc i n = true → NmOk X n i
  | none, none, _ => trivial
  | some _, none, h => by unfold ckNm at h; exact Bool.noConfusion h
  | none, some _, h => by unfold ckNm at h; exact Bool.noConfusion h
  | some i, some n, h => by
    unfold ckNm at h
    rw [Bool.and_eq_true] at h
    subst hsc
    exact ⟨by rw [hN]; exact of_decide_eq_true h.1, lcl_of h.2⟩
theorem cl_ok {sc : Scope} (E : ExG C X.K X.mg XR) (hsc : X.env.scope = sc) (hN : X.N = C.N) (bi : X.mg "isinstance" = none) : ∀ {hs : Hs} {hds : List ExceptHandler}, ckHs C sc hs hds = true →
    ∃ l : List Cl, ClOk X hds l ∧ ∀ (D : Ends) (c : Nat) (xs : List PyData) (σ : Sl) (m : MH) (I : Hp) (A : Ad) (H : Hp) (s : L2.St) (cls : Value) (d : Option Addr), ST X.K I A m H → SR X.K I A σ s → XR c xs cls d I H → OutS X.K XR W D I A (exH hs c xs σ m) → wCl X.K W D l cls d s H
  | .nil, [], _ => ⟨[], .nil, fun D c xs σ m I A H s cls d st sr x o => o I A H s cls d Ext.refl st sr x⟩
  | .nil, _ :: _, h => by unfold ckHs at h; exact Bool.noConfusion h
  | .cons c0 i0 b0 hs, [], h => by unfold ckHs at h; exact Bool.noConfusion h
  | .cons c0 i0 b0 hs, hd :: hds, h => by
    unfold ckHs at h
    split at h <;> first | exact Bool.noConfusion h | skip
    all_goals first | (rename_i e _; exact Hs.noConfusion e) | skip
    rename_i c0' i0' b0' hs' x np n ss hp hds' e1 e2
    injection e1 with z1 z2 z3 z4
    injection e2 with y1 y2
    subst z1 z2 z3 z4 y1 y2
    simp only [Bool.and_eq_true] at h
    obtain ⟨⟨⟨⟨⟨h1, h2⟩, h3⟩, h4⟩, h5⟩, h6⟩ := h
    have hi : C.EN[c0]? = some x := of_decide_eq_true h1
    obtain ⟨a0, base, hb, O, x1, x2⟩ := E.one c0 x hi
    rw [hb] at h5
    have h5 : ckHB C sc n base b0 ss = true := h5
    have hn := nm_of hN hsc h4
    have hnames : Names X x (.ref a0) := ⟨by subst hsc; exact gl_of h2, (plainN_of h3).1, .inl O.gm⟩
    obtain ⟨l, hl, go⟩ := cl_ok E hsc hN bi h6
    have other : ∀ (D : Ends) (c : Nat) (xs : List PyData) (σ : Sl) (m : MH) (I : Hp) (A : Ad) (H : Hp) (s : L2.St) (cls : Value) (d : Option Addr) (ts : Addr → Value → Option Addr → TS), ST X.K I A m H → SR X.K I A σ s → XR c xs cls d I H → OutS X.K XR W D I A (exH (.cons c0 i0 b0 hs) c xs σ m) →
        (c = c0 → cls = .ref a0 → d = none → ∀ a, H a = none → ts a (.ref a0) none (unD D i0) (putN s a i0) H) → wCl X.K W D ((.ref a0, i0, ts) :: l) cls d s H := by
      intro D c xs σ m I A H s cls d ts st sr xr o y
      cases q : C.EN[c]? with
      | none => exact (E.non c xs cls d I H q xr).elim
      | some idc =>
        obtain ⟨ac, basec, hbc, Oc, v1, v2⟩ := E.one c idc q
        obtain ⟨rfl, rfl, rfl⟩ := v2 xs cls d I H xr
        refine ⟨decide (c = c0), E.two c c0 idc x ac a0 q hi Oc.gm O.gm, fun z => ?_, fun z => ?_⟩
        · have e : c = c0 := of_decide_eq_true z
          subst e
          obtain ⟨_, w2, _⟩ := x2 [] (.ref ac) none I H xr
          have := y rfl w2 rfl
          rw [w2]
          exact this
        · have e : c ≠ c0 := of_decide_eq_false z
          have o' : OutS X.K XR W D I A (if c = c0 then exB b0 i0 σ m else exH hs c [] σ m) := o
          rw [if_neg e] at o'
          exact go D c [] σ m I A H s (.ref ac) none st sr xr o'
    cases b0 with
    | cont =>
      unfold ckHB at h5
      split at h5 <;> first | exact Bool.noConfusion h5 | skip
      · rename_i e _; exact HB.noConfusion e
      rename_i p _
      cases n with
      | some n => exact Bool.noConfusion h5
      | none =>
        cases i0 with
        | some i => exact hn.elim
        | none =>
          refine ⟨(.ref a0, none, fun a cls d => tCont) :: l, .cons hnames hn (fun a oe cls d pn hz hf => pss_one ps_continue) hl, fun D c xs σ m I A H s cls d st sr x o => other D c xs σ m I A H s cls d _ st sr x o fun ec _ _ a ha => ?_⟩
          have o' : OutS X.K XR W D I A (if c = c0 then exB .cont none σ m else exH hs c xs σ m) := o
          rw [if_pos ec] at o'
          exact o' I A H s Ext.refl st sr
    | ret v =>
      unfold ckHB at h5
      split at h5 <;> first | exact Bool.noConfusion h5 | skip
      all_goals first | (rename_i e _; exact HB.noConfusion e) | skip
      rename_i v' x' p' e _
      injection e with e
      subst e
      refine ⟨(.ref a0, i0, fun a cls d D s H => cls = .ref a0 ∧ d = none ∧ tRet (tHV X.K a i0 (hv v)) D s H) :: l, .cons hnames hn (fun a oe cls d pn hz hf => ⟨fun pins s σ H D Iv q => ?_⟩) hl, fun D c xs σ m I A H s cls d st sr x o => other D c xs σ m I A H s cls d _ st sr x o fun ec _ _ a ha => ⟨rfl, rfl, ?_⟩⟩
      · obtain ⟨rfl, rfl, q⟩ := q
        exact (pss_one (ps_ret (hv_ok hsc hN bi O hz hf hn v _ h5))).run pins s σ H D Iv q
      · have o' : OutS X.K XR W D I A (if c = c0 then exB (.ret v) i0 σ m else exH hs c xs σ m) := o
        rw [if_pos ec] at o'
        cases i0 with
        | none => exact ⟨(fun i e => nomatch e), I, A, m, st, fun I' H' y e st' dd => o' I' A H' y e st' dd⟩
        | some i =>
          have o' : OutS X.K XR W D I A (if i < σ.length then .rt (.v (hv v)) m else .stuck) := o'
          split at o'
          · rename_i hlt
            refine ⟨fun j e => ?_, I, A, m, st, fun I' H' y e st' dd => o' I' A H' y e st' dd⟩
            cases e
            exact List.getElem?_set_self (by rw [← sr.len]; exact hlt)
          · exact o'.elim
theorem s_try {sc : Scope} {b : Ss} {hs : Hs} {ys : List Stmt} {hd : ExceptHandler} {hds : List ExceptHandler} {pos : Pos} (E : ExG C X.K X.mg XR) (F : FX sc X) (hN : X.N = C.N) (nd : X.N.Nodup) (bi : X.mg "isinstance" = none) (tk : Takes X W) (hk : ckHs C sc hs (hd :: hds) = true)
    (hb : ∀ (W : WX) (pn : List (Addr × Obj)) (xe : Value → Shared → Prop), Takes (X.tr pn xe) W → PassesOwn (model X.prog X.w) X.A X.env xe → PSs (X.tr pn xe) ys (tS X.K XR W (exs cf cs b))) :
    PS X (.Try ys (hd :: hds) [] [] pos) (tS X.K XR W (ex cf cs (.tryR b hs))) := by
  obtain ⟨l, hl, go⟩ := cl_ok (W := W) E F.esc hN bi hk
  refine ps_imp (ps_tryCl F.stk F.fr nd tk hb hl) fun D s H ⟨I, A, σ, m, st, sr, o⟩ => ⟨I, A, σ, m, st, sr, ?_⟩
  have o : OutS X.K XR W D I A (match exs cf cs b σ m with
    | .exn c xs σ' h' => exH hs c xs σ' h'
    | z => z) := o
  cases q : exs cf cs b σ m <;> rw [q] at o <;> first | exact o | skip
  rename_i c xs σ' m'
  exact fun I' A' H' s' cls d e st' sr' x => go D c xs σ' m' I' A' H' s' cls d st' sr' x (OutS.mono e o)
end
end Sd

/-! Sd: the evaluator is right about expressions. -/
namespace Sd
open L2 PySem PySem.Spec PyProof.Rows
section
variable (C : CK) (cf : CF) (cs : List PyData) (XR : XT) (k : Nat)
def EOK (e : E) : Prop := ∀ (X : Cx) (sc : Scope) (W : WX) (x : Expr), G C cf cs XR k X → X.env.scope = sc → Takes X W → ckE C sc e x = true → PE X x (tE X.K XR W (ev cf cs e)) ∧ PT X x (tT X.K XR W (evB cf cs e))
def LOK (l : L) : Prop := ∀ (X : Cx) (sc : Scope) (W : WX) (x : Expr), G C cf cs XR k X → X.env.scope = sc → Takes X W → ckL C sc l x = true → PE X x (tL X.K XR W (evL cf cs l)) ∧
  ∀ (i : Nat) (nw : Bool) (id : Str) (p2 pos : Pos), GT sc X → sc.kind = .function → C.N[i]? = some id → locB sc id = true → ckSw sc id p2 x = true → PS X (.Assign [.Name id p2] x pos) (tS X.K XR W (ex cf cs (.asgL i l nw)))
def AllE (X : Cx) (W : WX) : Es → List Expr → Prop
  | .nil, [] => True
  | .cons e es, x :: xs => notStar x = true ∧ PE X x (tE X.K XR W (ev cf cs e)) ∧ PT X x (tT X.K XR W (evB cf cs e)) ∧ AllE X W es xs
  | _, _ => False
def EsOK (es : Es) : Prop := ∀ (X : Cx) (sc : Scope) (W : WX) (xs : List Expr), G C cf cs XR k X → X.env.scope = sc → Takes X W → ckEs C sc es xs = true → AllE cf cs XR X W es xs
def OOK (o : Eo) : Prop := ∀ (X : Cx) (sc : Scope) (W : WX) (x : Option Expr), G C cf cs XR k X → X.env.scope = sc → Takes X W → ckO C sc o x = true → PO X x (tG X.K XR relO W (evO cf cs o))
def IOK (i : It) : Prop := ∀ (X : Cx) (sc : Scope) (W : WX) (tg x : Expr), G C cf cs XR k X → X.env.scope = sc → Takes X W → ckI C sc i tg x = true → PI X tg x (tI X.K XR W (evI cf cs i))
end
section
variable {C : CK} {cf : CF} {cs : List PyData} {XR : XT} {k : Nat} {X : Cx} {W : WX}
theorem pe_stuck {x : Expr} {f : Sl → MH → Re RV} (h : ∀ σ m, f σ m = .stuck) : PE X x (tE X.K XR W f) := ⟨fun _ _ _ _ _ _ ⟨_, _, σ, m, _, _, o⟩ => by rw [h] at o; exact o.elim⟩
theorem pt_stuck {x : Expr} {f : Sl → MH → Re Bool} (h : ∀ σ m, f σ m = .stuck) : PT X x (tT X.K XR W f) := ⟨fun _ _ _ _ _ _ ⟨_, _, σ, m, _, _, o⟩ => by rw [h] at o; exact o.elim⟩
theorem pw_stuck {x : Expr} {f : Sl → MH → Re Bool} (h : ∀ σ m, f σ m = .stuck) : PW X x (tT X.K XR W f) := ⟨fun _ _ _ _ _ _ _ ⟨_, _, σ, m, _, _, o⟩ => by rw [h] at o; exact o.elim⟩
theorem all_ns : ∀ {es : Es} {xs : List Expr}, AllE cf cs XR X W es xs → xs.all notStar = true
  | .nil, [], _ => rfl
  | .cons _ _, _ :: _, ⟨h, _, _, r⟩ => by rw [List.all_cons, h, all_ns r]; rfl
theorem all_evs : ∀ {es : Es} {xs : List Expr}, AllE cf cs XR X W es xs → PA X xs (tA X.K XR W (evs cf cs es))
  | .nil, [], _ => s_evs0
  | .cons _ _, _ :: _, ⟨h, e, _, r⟩ => s_evs h e (all_evs r)
theorem all_evP : ∀ {es : Es} {xs : List Expr}, AllE cf cs XR X W es xs → PA X xs (tP X.K XR W (evP cf cs es))
  | .nil, [], _ => s_evP0
  | .cons _ _, _ :: _, ⟨h, e, _, r⟩ => s_evP h e (all_evP r)
theorem all_and {p : Pos} : ∀ {es : Es} {xs : List Expr}, AllE cf cs XR X W es xs → PE X (.BoolOp .And xs p) (tE X.K XR W (evAnd cf cs es)) ∧ PW X (.BoolOp .And xs p) (tT X.K XR W (fun σ m => trR (evAnd cf cs es σ m)))
  | .nil, [], _ => ⟨pe_stuck fun _ _ => rfl, pw_stuck fun _ _ => rfl⟩
  | .cons e .nil, [x], ⟨_, h, t, _⟩ => ⟨s_and1 h, s_andT1 t⟩
  | .cons e (.cons e2 es), x :: y :: xs, ⟨_, h, t, r⟩ => ⟨s_and h (all_and r).1, s_andT (tT_keep t) (all_and r).2⟩
  | .cons e .nil, x :: y :: xs, ⟨_, _, _, r⟩ => r.elim
  | .cons e (.cons e2 es), [x], ⟨_, _, _, r⟩ => r.elim
theorem all_or {p : Pos} : ∀ {es : Es} {xs : List Expr}, AllE cf cs XR X W es xs → PE X (.BoolOp .Or xs p) (tE X.K XR W (evOr cf cs es)) ∧ PW X (.BoolOp .Or xs p) (tT X.K XR W (fun σ m => trR (evOr cf cs es σ m)))
  | .nil, [], _ => ⟨pe_stuck fun _ _ => rfl, pw_stuck fun _ _ => rfl⟩
  | .cons e .nil, [x], ⟨_, h, t, _⟩ => ⟨s_or1 h, s_orT1 t⟩
  | .cons e (.cons e2 es), x :: y :: xs, ⟨_, h, t, r⟩ => ⟨s_or h (all_or r).1, s_orT (tT_keep t) (all_or r).2⟩
  | .cons e .nil, x :: y :: xs, ⟨_, _, _, r⟩ => r.elim
  | .cons e (.cons e2 es), [x], ⟨_, _, _, r⟩ => r.elim
theorem all_tests : ∀ {es : Es} {xs : List Expr}, AllE cf cs XR X W es xs → PTs X xs (tT X.K XR W (evC cf cs es))
  | .nil, [], _ => s_tests0
  | .cons _ _, _ :: _, ⟨_, _, t, r⟩ => s_tests t (all_tests r)
theorem ns_of {sc : Scope} {e : E} {x : Expr} (h : ckE C sc e x = true) : notStar x = true := by
  cases x <;> first | rfl | skip
  cases e <;> first | exact nomatch (show false = true from h) | skip
  all_goals
    rename_i l
    cases l <;> exact nomatch (show false = true from h)
theorem kw_args {sc : Scope} : ∀ {es : Es} {names : List Str} {kws : List Keyword}, ckKs C sc es names kws = true → ckEs C sc es (kws.map (·.value)) = true
  | .nil, [], [], _ => rfl
  | .nil, [], _ :: _, h => nomatch (show false = true from h)
  | .nil, _ :: _, _, h => nomatch (show false = true from h)
  | .cons _ _, [], _, h => nomatch (show false = true from h)
  | .cons _ _, _ :: _, [], h => nomatch (show false = true from h)
  | .cons _ _, _ :: _, ⟨none, _, _⟩ :: _, h => nomatch (show false = true from h)
  | .cons e es, n :: ns, ⟨some m, x, p⟩ :: ks, h => by
    have h : (decide (n = m) && ckE C sc e x && ckKs C sc es ns ks) = true := h
    simp only [Bool.and_eq_true] at h
    show (ckE C sc e x && ckEs C sc es (ks.map (·.value))) = true
    rw [h.1.2, kw_args h.2]
    rfl
theorem all_kw : ∀ {es : Es} {kws : List Keyword}, AllE cf cs XR X W es (kws.map (·.value)) → PK X kws (tA X.K XR W (evs cf cs es))
  | .nil, [], _ => s_kw0
  | .cons _ _, ⟨_, _, _⟩ :: _, ⟨_, e, _, r⟩ => s_kw e (all_kw r)
  | .nil, _ :: _, h => h.elim
  | .cons _ _, [], h => h.elim
/-- the block of a comprehension -/
theorem own_map {N : List Str} {own : List Nat} : (own.map fun i => ((N[i]?).getD (.ofString ""), i)).map (·.2) = own := by
  rw [List.map_map]
  exact List.map_id' own
theorem cell_of {sc : Scope} {id : Str} (h : (match sc.names.lookup id with
    | some .cell => true
    | _ => false) = true) : sc.names.lookup id = some .cell := by
  split at h
  · assumption
  · cases h
end
section
variable {C : CK} {cf : CF} {cs : List PyData} {XR : XT} {k : Nat}
mutual
theorem e_ok : ∀ e : E, EOK C cf cs XR k e
  | .var i => fun X sc W x g hsc tk h => by
    subst hsc
    cases x <;> first | exact nomatch (show false = true from h) | skip
    rename_i id p
    have h : (decide (C.N[i]? = some id) && visB X.env.scope id && plainN id) = true := h
    simp only [Bool.and_eq_true] at h
    have r : PE X (.Name id p) (tE X.K XR W (ev cf cs (.var i))) := s_var (by rw [g.N]; exact of_decide_eq_true h.1.1) (vis_of h.1.2) h.2
    exact ⟨r, s_tT r fun _ => rfl⟩
  | .non => fun X sc W x g hsc tk h => by
    cases x <;> first | exact nomatch (show false = true from h) | skip
    rename_i c kk pp
    cases c <;> first | exact nomatch (show false = true from h) | skip
    have r : PE X (.Constant .none kk pp) (tE X.K XR W (ev cf cs .non)) := s_const (fun _ _ => rfl) (fun _ => .non) pe_non
    exact ⟨r, s_tT r fun _ => rfl⟩
  | .bl b => fun X sc W x g hsc tk h => by
    cases x <;> first | exact nomatch (show false = true from h) | skip
    rename_i c kk pp
    cases c <;> first | exact nomatch (show false = true from h) | skip
    rename_i b'
    have h : (b == b') = true := h
    have e : b = b' := by simpa using h
    subst e
    have r : PE X (.Constant (.bool b) kk pp) (tE X.K XR W (ev cf cs (.bl b))) := s_const (fun _ _ => rfl) (fun _ => .bl b) pe_bl
    exact ⟨r, s_tT r fun _ => rfl⟩
  | .int i => fun X sc W x g hsc tk h => by
    cases x <;> first | exact nomatch (show false = true from h) | skip
    rename_i c kk pp
    cases c <;> first | exact nomatch (show false = true from h) | skip
    rename_i b'
    have e : i = b' := of_decide_eq_true h
    subst e
    have r : PE X (.Constant (.int i) kk pp) (tE X.K XR W (ev cf cs (.int i))) := s_const (fun _ _ => rfl) (fun _ => .int i) pe_int
    exact ⟨r, s_tT r fun _ => rfl⟩
  | .str z => fun X sc W x g hsc tk h => by
    cases x <;> first | exact nomatch (show false = true from h) | skip
    rename_i c kk pp
    cases c <;> first | exact nomatch (show false = true from h) | skip
    rename_i b'
    have e : z.toArray = b'.cps := of_decide_eq_true h
    have e2 : (⟨z.toArray⟩ : Str) = b' := by rw [e]
    have r : PE X (.Constant (.str b') kk pp) (tE X.K XR W (ev cf cs (.str z))) := s_const (fun _ _ => rfl) (fun I => by rw [e2]; exact .str b') pe_str
    exact ⟨r, s_tT r fun _ => rfl⟩
  | .con g => fun X sc W x G0 hsc tk h => by
    subst hsc
    cases x <;> first | exact nomatch (show false = true from h) | skip
    rename_i id p
    have h : (decide (C.CN[g]? = some id) && glB X.env.scope id && plainN id) = true := h
    simp only [Bool.and_eq_true] at h
    have r : PE X (.Name id p) (tE X.K XR W (ev cf cs (.con g))) := s_con G0 (of_decide_eq_true h.1.1) (gl_of h.1.2) h.2
    exact ⟨r, s_tT r fun _ => rfl⟩
  | .bop op a b => fun X sc W x g hsc tk h => by
    cases x <;> first | exact nomatch (show false = true from h) | skip
    rename_i y o z p
    have h : (eqOp (bopX op) o && ckE C sc a y && ckE C sc b z) = true := h
    simp only [Bool.and_eq_true] at h
    have e : bopX op = o := of_decide_eq_true h.1.1
    subst e
    have r := s_bop (op := op) (p := p) g.calm (e_ok a X sc W y g hsc tk h.1.2).1 (e_ok b X sc W z g hsc tk h.2).1
    exact ⟨r, s_tT r fun _ => rfl⟩
  | .neg a => fun X sc W x g hsc tk h => by
    cases x <;> first | exact nomatch (show false = true from h) | skip
    rename_i o y p
    cases o <;> first | exact nomatch (show false = true from h) | skip
    have r := s_neg (p := p) (e_ok a X sc W y g hsc tk h).1
    exact ⟨r, s_tT r fun _ => rfl⟩
  | .nt a => fun X sc W x g hsc tk h => by
    cases x <;> first | exact nomatch (show false = true from h) | skip
    rename_i o y p
    cases o <;> first | exact nomatch (show false = true from h) | skip
    exact ⟨s_nt (p := p) (e_ok a X sc W y g hsc tk h).1, s_ntT (p := p) (e_ok a X sc W y g hsc tk h).2⟩
  | .cmp op a b => fun X sc W x g hsc tk h => by
    cases x <;> first | exact nomatch (show false = true from h) | skip
    rename_i y os zs p
    match os, zs, h with
    | [o], [z], h =>
      have h : (eqCm (copX op) o && setFree z && ckE C sc a y && ckE C sc b z) = true := h
      simp only [Bool.and_eq_true] at h
      have e : copX op = o := of_decide_eq_true h.1.1.1
      subst e
      exact ⟨s_cmp (p := p) g h.1.1.2 (e_ok a X sc W y g hsc tk h.1.2).1 (e_ok b X sc W z g hsc tk h.2).1, s_cmpT (p := p) g h.1.1.2 (e_ok a X sc W y g hsc tk h.1.2).1 (e_ok b X sc W z g hsc tk h.2).1⟩
    | [], _, h => exact nomatch (show false = true from h)
    | [_], [], h => exact nomatch (show false = true from h)
    | [_], _ :: _ :: _, h => exact nomatch (show false = true from h)
    | _ :: _ :: _, _, h => exact nomatch (show false = true from h)
  | .cmp2 o1 o2 a b c => fun X sc W x g hsc tk h => by
    cases x <;> first | exact nomatch (show false = true from h) | skip
    rename_i y os zs p
    match os, zs, h with
    | [p1, p2], [z, u], h =>
      have h : (eqCm (copX o1) p1 && eqCm (copX o2) p2 && setFree z && setFree u && ckE C sc a y && ckE C sc b z && ckE C sc c u) = true := h
      simp only [Bool.and_eq_true] at h
      obtain ⟨⟨⟨⟨⟨⟨h1, h2⟩, h3⟩, h4⟩, h5⟩, h6⟩, h7⟩ := h
      have e1 : copX o1 = p1 := of_decide_eq_true h1
      have e2 : copX o2 = p2 := of_decide_eq_true h2
      subst e1 e2
      exact ⟨s_cmp2 (p := p) g h3 h4 (e_ok a X sc W y g hsc tk h5).1 (e_ok b X sc W z g hsc tk h6).1 (e_ok c X sc W u g hsc tk h7).1, s_cmp2T (p := p) g h3 h4 (e_ok a X sc W y g hsc tk h5).1 (e_ok b X sc W z g hsc tk h6).1 (e_ok c X sc W u g hsc tk h7).1⟩
    | [], _, h => exact nomatch (show false = true from h)
    | [_], _, h => exact nomatch (show false = true from h)
    | [_, _], [], h => exact nomatch (show false = true from h)
    | [_, _], [_], h => exact nomatch (show false = true from h)
    | [_, _], _ :: _ :: _ :: _, h => exact nomatch (show false = true from h)
    | _ :: _ :: _ :: _, _, h => exact nomatch (show false = true from h)
  | .isN a => fun X sc W x g hsc tk h => by
    have inv : ∃ y j p2 p, x = .Compare y [.Is] [.Constant .none j p2] p ∧ ckE C sc a y = true := by
      unfold ckE at h
      split at h <;> first | exact nomatch (show false = true from h) | skip
      all_goals first | (rename_i e; exact E.noConfusion e) | (rename_i e _; exact E.noConfusion e) | skip
      rename_i z _ _ _ e
      injection e with e
      subst e
      exact ⟨_, _, _, _, rfl, h⟩
    obtain ⟨y, j, p2, p, rfl, h⟩ := inv
    exact ⟨s_isN (e_ok a X sc W y g hsc tk h).1, s_isNT (e_ok a X sc W y g hsc tk h).1⟩
  | .notN a => fun X sc W x g hsc tk h => by
    have inv : ∃ y j p2 p, x = .Compare y [.IsNot] [.Constant .none j p2] p ∧ ckE C sc a y = true := by
      unfold ckE at h
      split at h <;> first | exact nomatch (show false = true from h) | skip
      all_goals first | (rename_i e; exact E.noConfusion e) | (rename_i e _; exact E.noConfusion e) | skip
      rename_i z _ _ _ e
      injection e with e
      subst e
      exact ⟨_, _, _, _, rfl, h⟩
    obtain ⟨y, j, p2, p, rfl, h⟩ := inv
    exact ⟨s_notN (e_ok a X sc W y g hsc tk h).1, s_notNT (e_ok a X sc W y g hsc tk h).1⟩
  | .band es => fun X sc W x g hsc tk h => by
    cases x <;> first | exact nomatch (show false = true from h) | skip
    rename_i o xs p
    cases o <;> first | exact nomatch (show false = true from h) | skip
    have r := all_and (p := p) (es_ok es X sc W xs g hsc tk h)
    exact ⟨r.1, r.2.pt⟩
  | .bor es => fun X sc W x g hsc tk h => by
    cases x <;> first | exact nomatch (show false = true from h) | skip
    rename_i o xs p
    cases o <;> first | exact nomatch (show false = true from h) | skip
    have r := all_or (p := p) (es_ok es X sc W xs g hsc tk h)
    exact ⟨r.1, r.2.pt⟩
  | .ite c a b => fun X sc W x g hsc tk h => by
    cases x <;> first | exact nomatch (show false = true from h) | skip
    rename_i y z u p
    have h : (ckE C sc c y && ckE C sc a z && ckE C sc b u) = true := h
    simp only [Bool.and_eq_true] at h
    have ic := e_ok c X sc W y g hsc tk h.1.1
    have ia := e_ok a X sc W z g hsc tk h.1.2
    have ib := e_ok b X sc W u g hsc tk h.2
    exact ⟨s_ite (p := p) ic.2 ia.1 ib.1, s_iteT (p := p) ic.2 ia.2 ib.2⟩
  | .tup es => fun X sc W x g hsc tk h => by
    cases x <;> first | exact nomatch (show false = true from h) | skip
    rename_i xs j p
    have r : PE X (.Tuple xs j p) (tE X.K XR W (ev cf cs (.tup es))) := s_tup (all_evP (es_ok es X sc W xs g hsc tk h))
    exact ⟨r, s_tT r fun _ => rfl⟩
  | .lst l => fun X sc W x g hsc tk h => by
    have r := s_lst (l_ok l X sc W x g hsc tk h).1
    refine ⟨r, s_tT r fun _ => ?_⟩
    cases x <;> first | rfl | skip
    all_goals first | (cases l <;> exact nomatch (show false = true from h))
  | .new l => fun X sc W x g hsc tk h => by
    have r := s_new (l_ok l X sc W x g hsc tk h).1
    refine ⟨r, s_tT r fun _ => ?_⟩
    cases x <;> first | rfl | skip
    all_goals first | (cases l <;> exact nomatch (show false = true from h))
  | .call g es => fun X sc W x G0 hsc tk h => by
    cases x <;> first | exact nomatch (show false = true from h) | skip
    rename_i f xs ks p
    cases f <;> first | exact nomatch (show false = true from h) | skip
    rename_i id p2
    cases ks <;> first | exact nomatch (show false = true from h) | skip
    have h : (decide (C.FN[g]? = some id) && glB sc id && plainN id && ckEs C sc es xs) = true := h
    simp only [Bool.and_eq_true] at h
    have ih := es_ok es X sc W xs G0 hsc tk h.2
    have hg : Gl X id := by subst hsc; exact gl_of h.1.1.2
    have hf : C.FN[g]? = some id := of_decide_eq_true h.1.1.1
    match xs, es, ih with
    | [], .nil, ih =>
      have r := s_call0 (p := p2) (pos := p) G0 tk hf hg h.1.2
      exact ⟨r, s_tT r fun _ => rfl⟩
    | x :: xs, es, ih =>
      have r := s_call (p := p2) (pos := p) G0 tk hf hg h.1.2 (all_ns ih) (all_evs ih)
      exact ⟨r, s_tT r fun _ => rfl⟩
    | [], .cons _ _, ih => exact ih.elim
  | .callK g ks names perm => fun X sc W x G0 hsc tk h => by
    cases x <;> first | exact nomatch (show false = true from h) | skip
    rename_i f xs kws p
    cases f <;> first | exact nomatch (show false = true from h) | skip
    rename_i id p2
    cases xs <;> first | exact nomatch (show false = true from h) | skip
    have h : (decide (C.FN[g]? = some id) && glB sc id && plainN id && ckKs C sc ks names kws && decide ((g, names, perm) ∈ C.KW)) = true := h
    simp only [Bool.and_eq_true] at h
    obtain ⟨⟨⟨⟨h1, h2⟩, h3⟩, h4⟩, h5⟩ := h
    have r := s_callK (p := p2) (pos := p) G0 tk (of_decide_eq_true h1) (by subst hsc; exact gl_of h2) h3 h4 (of_decide_eq_true h5) (all_kw (es_ok ks X sc W _ G0 hsc tk (kw_args h4)))
    exact ⟨r, s_tT r fun _ => rfl⟩
  | .callS gs i es => fun X sc W x G0 hsc tk h => by
    cases x <;> first | exact nomatch (show false = true from h) | skip
    rename_i f xs kws p
    cases f <;> first | exact nomatch (show false = true from h) | skip
    rename_i v y p2
    cases v <;> first | exact nomatch (show false = true from h) | skip
    rename_i fs p3
    cases kws <;> first | exact nomatch (show false = true from h) | skip
    have h : (ckFs C sc gs fs && plainSl y && !xs.isEmpty && decide (gs.length ≤ 1000) && ckE C sc i y && ckEs C sc es xs) = true := h
    simp only [Bool.and_eq_true] at h
    obtain ⟨⟨⟨⟨⟨h1, h2⟩, h3⟩, h4⟩, h5⟩, h6⟩ := h
    cases xs with
    | nil => exact nomatch (show false = true from h3)
    | cons x xs =>
      have ih := es_ok es X sc W (x :: xs) G0 hsc tk h6
      have r := s_callS (p1 := p3) (p2 := p2) (pos := p) G0 tk (by rw [hsc]; exact h1) h2 (of_decide_eq_true h4) (all_ns ih) (e_ok i X sc W y G0 hsc tk h5).1 (all_evs ih)
      exact ⟨r, s_tT r fun _ => rfl⟩
  | .bi f es => fun X sc W x G0 hsc tk h => by
    cases x <;> first | exact nomatch (show false = true from h) | skip
    rename_i f2 xs ks p
    cases f2 <;> first | exact nomatch (show false = true from h) | skip
    rename_i id p2
    cases ks <;> first | exact nomatch (show false = true from h) | skip
    have h : (decide (b1X f = id) && glB sc id && plainN id && (!isLcm f || C.lcm) && !xs.isEmpty && ckEs C sc es xs) = true := h
    simp only [Bool.and_eq_true] at h
    obtain ⟨⟨⟨⟨⟨h1, h2⟩, h3⟩, h4⟩, h5⟩, h6⟩ := h
    cases xs with
    | nil => exact nomatch (show false = true from h5)
    | cons x xs =>
      have ih := es_ok es X sc W (x :: xs) G0 hsc tk h6
      have r := s_bi (p := p2) (pos := p) G0 (of_decide_eq_true h1) (by subst hsc; exact gl_of h2) h3 (fun q => by rw [q] at h4; simpa using h4) (all_ns ih) (all_evs ih)
      exact ⟨r, s_tT r fun _ => rfl⟩
  | .isi a t => fun X sc W x G0 hsc tk h => by
    have inv : ∃ p p2 pos y, x = .Call (.Name "isinstance" p) [y, .Name (tyX t) p2] [] pos ∧ glB sc "isinstance" = true ∧ glB sc (tyX t) = true ∧ ckE C sc a y = true := by
      cases x <;> first | exact nomatch (show false = true from h) | skip
      rename_i f xs ks p
      cases f <;> first | exact nomatch (show false = true from h) | skip
      rename_i id p2
      match xs, ks, h with
      | [y, z], [], h =>
        cases z <;> first | exact nomatch (show false = true from h) | skip
        rename_i ty p3
        have h : (decide (id = ("isinstance" : Str)) && glB sc id && decide (tyX t = ty) && glB sc ty && ckE C sc a y) = true := h
        simp only [Bool.and_eq_true] at h
        obtain ⟨⟨⟨⟨h1, h2⟩, h3⟩, h4⟩, h5⟩ := h
        have e1 : id = ("isinstance" : Str) := of_decide_eq_true h1
        have e2 : tyX t = ty := of_decide_eq_true h3
        subst e1 e2
        exact ⟨_, _, _, _, rfl, h2, h4, h5⟩
      | [], _, h => exact nomatch (show false = true from h)
      | [_], _, h => exact nomatch (show false = true from h)
      | _ :: z :: _ :: _, _, h => cases z <;> exact nomatch (show false = true from h)
      | [_, z], _ :: _, h => cases z <;> exact nomatch (show false = true from h)
    obtain ⟨p, p2, pos, y, rfl, h1, h2, h3⟩ := inv
    subst hsc
    have r := s_isi (p := p) (p2 := p2) (pos := pos) G0 (gl_of h1) (gl_of h2) (ns_of h3) (e_ok a X _ W y G0 rfl tk h3).1
    exact ⟨r, s_tT r fun _ => rfl⟩
  | .isi2 a t u => fun X sc W x G0 hsc tk h => by
    have inv : ∃ p p2 p3 p4 j pos y, x = .Call (.Name "isinstance" p) [y, .Tuple [.Name (tyX t) p2, .Name (tyX u) p3] j p4] [] pos ∧ glB sc "isinstance" = true ∧ glB sc (tyX t) = true ∧ glB sc (tyX u) = true ∧ ckE C sc a y = true := by
      unfold ckE at h
      split at h <;> first | exact nomatch (show false = true from h) | skip
      all_goals first | (rename_i e; exact E.noConfusion e) | (rename_i e _; exact E.noConfusion e) | skip
      rename_i e
      injection e with z1 z2 z3
      subst z1 z2 z3
      simp only [Bool.and_eq_true, decide_eq_true_eq] at h
      obtain ⟨⟨⟨⟨⟨⟨h1, h2⟩, h3⟩, h4⟩, h5⟩, h6⟩, h7⟩ := h
      subst h1 h3 h5
      exact ⟨_, _, _, _, _, _, _, rfl, h2, h4, h6, h7⟩
    obtain ⟨p, p2, p3, p4, j, pos, y, rfl, h1, h2, h3, h4⟩ := inv
    subst hsc
    have r := s_isi2 (p := p) (p2 := p2) (p3 := p3) (p4 := p4) (j := j) (pos := pos) G0 (gl_of h1) (gl_of h2) (gl_of h3) (ns_of h4) (e_ok a X _ W y G0 rfl tk h4).1
    exact ⟨r, s_tT r fun _ => rfl⟩
  | .ix a i => fun X sc W x g hsc tk h => by
    cases x <;> first | exact nomatch (show false = true from h) | skip
    rename_i y z p
    have h : (plainSl z && ckE C sc a y && ckE C sc i z) = true := h
    simp only [Bool.and_eq_true] at h
    have r := s_ix (p := p) h.1.1 (e_ok a X sc W y g hsc tk h.1.2).1 (e_ok i X sc W z g hsc tk h.2).1
    exact ⟨r, s_tT r fun _ => rfl⟩
  | .slt a lo hi => fun X sc W x g hsc tk h => by
    cases x <;> first | exact nomatch (show false = true from h) | skip
    rename_i y z p
    cases z <;> first | exact nomatch (show false = true from h) | skip
    rename_i l u st p2
    cases st <;> first | exact nomatch (show false = true from h) | skip
    have h : (ckE C sc a y && ckO C sc lo l && ckO C sc hi u) = true := h
    simp only [Bool.and_eq_true] at h
    have r := s_slt (p := p) (p2 := p2) (e_ok a X sc W y g hsc tk h.1.1).1 (o_ok lo X sc W l g hsc tk h.1.2) (o_ok hi X sc W u g hsc tk h.2)
    exact ⟨r, s_tT r fun _ => rfl⟩
  | .index a b => fun X sc W x g hsc tk h => by
    cases x <;> first | exact nomatch (show false = true from h) | skip
    rename_i f xs ks cp
    cases f <;> first | exact nomatch (show false = true from h) | skip
    rename_i y at_ ap
    match xs, ks, h with
    | [z], [], h =>
      have h : (decide (at_ = ("index" : Str)) && (ap.endLine == cp.line) && plainObj y && notStar z && ckE C sc a y && ckE C sc b z) = true := h
      simp only [Bool.and_eq_true] at h
      obtain ⟨⟨⟨⟨⟨h1, h2⟩, h3⟩, h4⟩, h5⟩, h6⟩ := h
      have e1 : at_ = ("index" : Str) := of_decide_eq_true h1
      subst e1
      have r := s_index (ap := ap) (cp := cp) h3 h2 h4 (e_ok a X sc W y g hsc tk h5).1 (e_ok b X sc W z g hsc tk h6).1
      exact ⟨r, s_tT r fun _ => rfl⟩
    | [], _, h => exact nomatch (show false = true from h)
    | [_], _ :: _, h => exact nomatch (show false = true from h)
    | _ :: _ :: _, _, h => exact nomatch (show false = true from h)
  | .bad => fun X sc W x g hsc tk h => ⟨pe_stuck fun _ _ => rfl, pt_stuck fun _ _ => rfl⟩
theorem es_ok : ∀ es : Es, EsOK C cf cs XR k es
  | .nil => fun X sc W xs g hsc tk h => by
    cases xs with
    | nil => exact trivial
    | cons => exact nomatch (show false = true from h)
  | .cons e es => fun X sc W xs g hsc tk h => by
    cases xs with
    | nil => exact nomatch (show false = true from h)
    | cons x xs =>
      have h : (ckE C sc e x && ckEs C sc es xs) = true := h
      rw [Bool.and_eq_true] at h
      have r := e_ok e X sc W x g hsc tk h.1
      exact ⟨ns_of h.1, r.1, r.2, es_ok es X sc W xs g hsc tk h.2⟩
theorem o_ok : ∀ o : Eo, OOK C cf cs XR k o
  | .non => fun X sc W x g hsc tk h => by
    cases x with
    | none => exact s_o0
    | some => exact nomatch (show false = true from h)
  | .some e => fun X sc W x g hsc tk h => by
    cases x with
    | none => exact nomatch (show false = true from h)
    | some x => exact s_o (e_ok e X sc W x g hsc tk h).1
theorem i_ok : ∀ i : It, IOK C cf cs XR k i
  | .seq e => fun X sc W tg x g hsc tk h => s_itSeq (e_ok e X sc W x g hsc tk h).1
  | .rng a => fun X sc W tg x g hsc tk h => by
    cases x <;> first | exact nomatch (show false = true from h) | skip
    rename_i f xs ks p
    cases f <;> first | exact nomatch (show false = true from h) | skip
    rename_i id p2
    match xs, ks, h with
    | [y], [], h =>
      have h : (decide (id = ("range" : Str)) && glB sc id && ckE C sc a y) = true := h
      simp only [Bool.and_eq_true] at h
      have e1 : id = ("range" : Str) := of_decide_eq_true h.1.1
      subst e1 hsc
      exact s_itRng g (gl_of h.1.2) (ns_of h.2) (e_ok a X _ W y g rfl tk h.2).1
    | [], _, h => exact nomatch (show false = true from h)
    | [_], _ :: _, h => exact nomatch (show false = true from h)
    | _ :: _ :: _, _, h => exact nomatch (show false = true from h)
  | .rng2 a b => fun X sc W tg x g hsc tk h => by
    cases x <;> first | exact nomatch (show false = true from h) | skip
    rename_i f xs ks p
    cases f <;> first | exact nomatch (show false = true from h) | skip
    rename_i id p2
    match xs, ks, h with
    | [y, z], [], h =>
      have h : (decide (id = ("range" : Str)) && glB sc id && ckE C sc a y && ckE C sc b z) = true := h
      simp only [Bool.and_eq_true] at h
      have e1 : id = ("range" : Str) := of_decide_eq_true h.1.1.1
      subst e1 hsc
      exact s_itRng2 g (gl_of h.1.1.2) (ns_of h.1.2) (ns_of h.2) (e_ok a X _ W y g rfl tk h.1.2).1 (e_ok b X _ W z g rfl tk h.2).1
    | [], _, h => exact nomatch (show false = true from h)
    | [_], _, h => exact nomatch (show false = true from h)
    | [_, _], _ :: _, h => exact nomatch (show false = true from h)
    | _ :: _ :: _ :: _, _, h => exact nomatch (show false = true from h)
  | .enum a => fun X sc W tg x g hsc tk h => by
    cases tg <;> first | exact nomatch (show false = true from h) | skip
    cases x <;> first | exact nomatch (show false = true from h) | skip
    rename_i f xs ks p
    cases f <;> first | exact nomatch (show false = true from h) | skip
    rename_i id p2
    match xs, ks, h with
    | [y], [], h =>
      have h : (decide (id = ("enumerate" : Str)) && glB sc id && ckE C sc a y) = true := h
      simp only [Bool.and_eq_true] at h
      have e1 : id = ("enumerate" : Str) := of_decide_eq_true h.1.1
      subst e1 hsc
      exact s_itEnum g (gl_of h.1.2) (ns_of h.2) (e_ok a X _ W y g rfl tk h.2).1
    | [], _, h => exact nomatch (show false = true from h)
    | [_], _ :: _, h => exact nomatch (show false = true from h)
    | _ :: _ :: _, _, h => exact nomatch (show false = true from h)
  | .zip a b => fun X sc W tg x g hsc tk h => by
    cases tg <;> first | exact nomatch (show false = true from h) | skip
    cases x <;> first | exact nomatch (show false = true from h) | skip
    rename_i f xs ks p
    cases f <;> first | exact nomatch (show false = true from h) | skip
    rename_i id p2
    match xs, ks, h with
    | [y, z], [], h =>
      have h : (decide (id = ("zip" : Str)) && glB sc id && ckE C sc a y && ckE C sc b z) = true := h
      simp only [Bool.and_eq_true] at h
      have e1 : id = ("zip" : Str) := of_decide_eq_true h.1.1.1
      subst e1 hsc
      exact s_itZip g (gl_of h.1.1.2) (ns_of h.1.2) (ns_of h.2) (e_ok a X _ W y g rfl tk h.1.2).1 (e_ok b X _ W z g rfl tk h.2).1
    | [], _, h => exact nomatch (show false = true from h)
    | [_], _, h => exact nomatch (show false = true from h)
    | [_, _], _ :: _, h => exact nomatch (show false = true from h)
    | _ :: _ :: _ :: _, _, h => exact nomatch (show false = true from h)
  | .comb a n => fun X sc W tg x g hsc tk h => by
    cases tg <;> first | exact nomatch (show false = true from h) | skip
    unfold ckI at h
    split at h <;> first | exact nomatch (show false = true from h) | skip
    all_goals first | (rename_i e; exact It.noConfusion e) | (rename_i e _; exact It.noConfusion e) | (rename_i e _ _; exact It.noConfusion e) | skip
    rename_i q1 q2 a' n' z1 z2 id p id2 p2 y pos2 z pos e1 e2
    injection e1 with u1 u2
    subst u1 u2
    simp only [Bool.and_eq_true, decide_eq_true_eq] at h
    obtain ⟨⟨⟨⟨⟨⟨h0, h1⟩, h2⟩, h3⟩, h4⟩, h5⟩, h6⟩ := h
    subst h1 h3 hsc
    exact s_itComb g h0 (gl_of h2) (gl_of h4) (ns_of h5) (ns_of h6) (e_ok a X _ W y g rfl tk h5).1 (e_ok n X _ W z g rfl tk h6).1
theorem l_ok : ∀ l : L, LOK C cf cs XR k l
  | .disp es => fun X sc W x g hsc tk h => by
    cases x <;> first | exact nomatch (show false = true from h) | skip
    rename_i xs p
    have r : PE X (.List xs p) (tL X.K XR W (evL cf cs (.disp es))) := s_disp (all_evP (es_ok es X sc W xs g hsc tk h))
    exact ⟨r, fun i nw id p2 pos gt hk hi hl _ => s_asgL g.N g.nd hi (gt _ hl) rfl r⟩
  | .comp own t it ifs e => fun X sc W x g hsc tk h => by
    cases x <;> first | exact nomatch (show false = true from h) | skip
    rename_i elt gens scope p
    match gens, h with
    | [⟨tg, iter, fs, .negSucc _⟩], h => exact nomatch (show false = true from h)
    | [⟨tg, iter, fs, .ofNat (_ + 1)⟩], h => exact nomatch (show false = true from h)
    | [⟨tg, iter, fs, .ofNat 0⟩], h =>
      have h : (L2.blkC C.N sc scope (own.map fun i => ((C.N[i]?).getD (.ofString ""), i)) && ckT C scope t tg && ckI C sc it tg iter && plainIt iter && ckEs C (relC scope sc) ifs fs && ckE C (relC scope sc) e elt && decide (tgSlots t ⊆ own)) = true := h
      simp only [Bool.and_eq_true] at h
      obtain ⟨⟨⟨⟨⟨⟨h1, h2⟩, h3⟩, h4⟩, h5⟩, h6⟩, h7⟩ := h
      subst hsc
      have hi := i_ok it X _ W tg iter g rfl tk h3
      have hok : BlkOk X.N X.env.scope scope (own.map fun i => ((C.N[i]?).getD (.ofString ""), i)) := by rw [g.N]; exact blkOk_by h1
      have hsz : ∀ i ∈ tgSlots t, i ∈ own := of_decide_eq_true h7
      have hg : ∀ (s : Shared) (H : Hp) (Cc : Addr) (cl : List (Str × Addr)) (fp : List Addr), PG (X.blk s H scope (compEnvC scope cl Cc X.env) fp) tg (tTg X.K t) := fun s H Cc cl fp => tg_ok (X := X.blk s H scope (compEnvC scope cl Cc X.env) fp) g.N g.nd g.calm (gt_blk s H Cc cl fp) t tg h2
      have ht : ∀ (s : Shared) (H : Hp) (Cc : Addr) (cl : List (Str × Addr)) (fp : List Addr), PTs (X.blk s H scope (compEnvC scope cl Cc X.env) fp) fs (tT X.K XR W0 (evC cf cs ifs)) := fun s H Cc cl fp => all_tests (es_ok ifs (X.blk s H scope (compEnvC scope cl Cc X.env) fp) _ W0 fs (g.blk s H scope _ fp) rfl takes0 h5)
      have he : ∀ (s : Shared) (H : Hp) (Cc : Addr) (cl : List (Str × Addr)) (fp : List Addr), PE (X.blk s H scope (compEnvC scope cl Cc X.env) fp) elt (tE X.K XR W0 (ev cf cs e)) := fun s H Cc cl fp => (e_ok e (X.blk s H scope (compEnvC scope cl Cc X.env) fp) _ W0 elt (g.blk s H scope _ fp) rfl takes0 h6).1
      have r := s_comp (p := p) g.calm g.nd hi h4 hok own_map hsz hg ht he
      refine ⟨r, fun i nw id p2 pos gt hk hN hl hw => ?_⟩
      have hw : ((lclB X.env.scope id && (p2.line == p.line) && !(scope.names.any fun (n, k) => n == id && (k == .local || k == .cell))) || (match X.env.scope.names.lookup id with
        | some .cell => true
        | _ => false)) = true := hw
      rw [Bool.or_eq_true] at hw
      rcases hw with hw | hw
      · simp only [Bool.and_eq_true, Bool.not_eq_true'] at hw
        exact s_asgComp g.N g.calm g.nd hN (lcl_of hw.1.1) (sw_true hk (lcl_of hw.1.1) hw.1.2 hw.2) hi h4 hok own_map hsz hg ht he
      · exact ps_imp (ps_set g.nd (by rw [g.N]; exact hN) (gt _ hl).1 r (sw_false (cell_of hw)) (gt _ hl).2) fun D s H q => asgL_key q
    | [], h => exact nomatch (show false = true from h)
    | ⟨_, _, _, .negSucc _⟩ :: _ :: _, h => exact nomatch (show false = true from h)
    | ⟨_, _, _, .ofNat (_ + 1)⟩ :: _ :: _, h => exact nomatch (show false = true from h)
    | ⟨_, _, _, .ofNat 0⟩ :: _ :: _, h => exact nomatch (show false = true from h)
  | .sorted e => fun X sc W x g hsc tk h => by
    cases x <;> first | exact nomatch (show false = true from h) | skip
    rename_i f xs ks p
    cases f <;> first | exact nomatch (show false = true from h) | skip
    rename_i id p2
    match xs, ks, h with
    | [y], [], h =>
      have h : (decide (id = ("sorted" : Str)) && glB sc id && ckE C sc e y) = true := h
      simp only [Bool.and_eq_true] at h
      have e1 : id = ("sorted" : Str) := of_decide_eq_true h.1.1
      subst e1
      have r := s_sorted (p := p2) (pos := p) g (by subst hsc; exact gl_of h.1.2) (ns_of h.2) (e_ok e X sc W y g hsc tk h.2).1
      exact ⟨r, fun i nw id p2 pos gt hk hi hl _ => s_asgL g.N g.nd hi (gt _ hl) rfl r⟩
    | [], _, h => exact nomatch (show false = true from h)
    | [_], _ :: _, h => exact nomatch (show false = true from h)
    | _ :: _ :: _, _, h => exact nomatch (show false = true from h)
  | .list e => fun X sc W x g hsc tk h => by
    cases x <;> first | exact nomatch (show false = true from h) | skip
    rename_i f xs ks p
    cases f <;> first | exact nomatch (show false = true from h) | skip
    rename_i id p2
    match xs, ks, h with
    | [y], [], h =>
      have h : (decide (id = ("list" : Str)) && glB sc id && ckE C sc e y) = true := h
      simp only [Bool.and_eq_true] at h
      have e1 : id = ("list" : Str) := of_decide_eq_true h.1.1
      subst e1
      have r := s_list (p := p2) (pos := p) g (by subst hsc; exact gl_of h.1.2) (ns_of h.2) (e_ok e X sc W y g hsc tk h.2).1
      exact ⟨r, fun i nw id p2 pos gt hk hi hl _ => s_asgL g.N g.nd hi (gt _ hl) rfl r⟩
    | [], _, h => exact nomatch (show false = true from h)
    | [_], _ :: _, h => exact nomatch (show false = true from h)
    | _ :: _ :: _, _, h => exact nomatch (show false = true from h)
  | .cat a b => fun X sc W x g hsc tk h => by
    cases x <;> first | exact nomatch (show false = true from h) | skip
    rename_i y o z p
    cases o <;> first | exact nomatch (show false = true from h) | skip
    have h : (ckE C sc a y && ckE C sc b z) = true := h
    simp only [Bool.and_eq_true] at h
    have r := s_cat (p := p) (e_ok a X sc W y g hsc tk h.1).1 (e_ok b X sc W z g hsc tk h.2).1
    exact ⟨r, fun i nw id p2 pos gt hk hi hl _ => s_asgL g.N g.nd hi (gt _ hl) rfl r⟩
  | .rep a n => fun X sc W x g hsc tk h => by
    cases x <;> first | exact nomatch (show false = true from h) | skip
    rename_i y o z p
    cases o <;> first | exact nomatch (show false = true from h) | skip
    have h : (ckL C sc a y && ckE C sc n z) = true := h
    simp only [Bool.and_eq_true] at h
    have r := s_rep (p := p) (l_ok a X sc W y g hsc tk h.1).1 (e_ok n X sc W z g hsc tk h.2).1
    exact ⟨r, fun i nw id p2 pos gt hk hi hl _ => s_asgL g.N g.nd hi (gt _ hl) rfl r⟩
  | .slice a lo hi => fun X sc W x g hsc tk h => by
    cases x <;> first | exact nomatch (show false = true from h) | skip
    rename_i y z p
    cases z <;> first | exact nomatch (show false = true from h) | skip
    rename_i l u st p2
    cases st <;> first | exact nomatch (show false = true from h) | skip
    have h : (ckE C sc a y && ckO C sc lo l && ckO C sc hi u) = true := h
    simp only [Bool.and_eq_true] at h
    have r := s_slice (p := p) (p2 := p2) (e_ok a X sc W y g hsc tk h.1.1).1 (o_ok lo X sc W l g hsc tk h.1.2) (o_ok hi X sc W u g hsc tk h.2)
    exact ⟨r, fun i nw id p2 pos gt hk hi hl _ => s_asgL g.N g.nd hi (gt _ hl) rfl r⟩
end
end
end Sd

/-! Sd: the evaluator is right about statements. -/
namespace Sd
open L2 PySem PySem.Spec PyProof.Rows
section
variable (C : CK) (cf : CF) (cs : List PyData) (XR : XT) (k : Nat)
def SOK (s : S) : Prop := ∀ (X : Cx) (sc : Scope) (W : WX) (x : Stmt), G C cf cs XR k X → ExG C X.K X.mg XR → FX sc X → Takes X W → ckS C sc s x = true → PS X x (tS X.K XR W (ex cf cs s))
def SsOK (s : Ss) : Prop := ∀ (X : Cx) (sc : Scope) (W : WX) (xs : List Stmt), G C cf cs XR k X → ExG C X.K X.mg XR → FX sc X → Takes X W → ckSs C sc s xs = true → PSs X xs (tS X.K XR W (exs cf cs s))
end
section
variable {C : CK} {cf : CF} {cs : List PyData} {XR : XT} {k : Nat} {X : Cx} {W : WX}
theorem ps_stuck {x : Stmt} {f : Sl → MH → Rs} (h : ∀ σ m, f σ m = .stuck) : PS X x (tS X.K XR W f) := ⟨fun _ _ _ _ _ _ ⟨_, _, σ, m, _, _, o⟩ => by rw [h] at o; exact o.elim⟩
theorem comp_no {e : Expr} (h : (!isCompX e) = true) : isCompX e = false := by simpa using h
theorem par_ok {sc : Scope} {is : List Nat} {es : Es} {ts vs : List Expr} {k1 k2 : Nat} {p1 p2 pos : Pos} (g : G C cf cs XR k X) (F : FX sc X) (h : ckPar C sc is ts vs = true) (ih : PA X vs (tA X.K XR W (evs cf cs es))) :
    PS X (.Assign [.Tuple ts k1 p1] (.Tuple vs k2 p2) pos) (tS X.K XR W (ex cf cs (.par is es))) := by
  have hsc := F.esc
  have hk := F.kind
  subst hsc
  unfold ckPar at h
  split at h
  · simp only [Bool.and_eq_true, decide_eq_true_eq, Bool.not_eq_true'] at h
    obtain ⟨⟨⟨⟨⟨⟨⟨⟨⟨⟨h1, h2⟩, h3⟩, h4⟩, h5⟩, h6⟩, h7⟩, h8⟩, h9⟩, h10⟩, h11⟩ := h
    exact s_par2 g.N g.calm g.nd h1 h2 h5 (lcl_of h3) (lcl_of h4) (swapped2 hk (lcl_of h3) (lcl_of h4) h6 h7 h8 h9 h10 h11) ih
  · simp only [Bool.and_eq_true, decide_eq_true_eq, Bool.not_eq_true'] at h
    obtain ⟨⟨⟨⟨⟨⟨⟨⟨⟨⟨⟨⟨⟨⟨⟨⟨⟨⟨h1, h2⟩, h3⟩, l1⟩, l2⟩, l3⟩, n1⟩, n2⟩, n3⟩, d1⟩, d2⟩, d3⟩, p1⟩, p2⟩, s1⟩, s2⟩, s3⟩, f1⟩, f2⟩ := h
    exact s_par3 g.N g.calm g.nd h1 h2 h3 n1 n2 n3 (lcl_of l1) (lcl_of l2) (lcl_of l3) (swapped3 hk (lcl_of l1) (lcl_of l2) (lcl_of l3) d1 d2 d3 p1 p2 s1 s2 s3 f1 f2) ih
  · cases h
mutual
theorem s_ok : ∀ s : S, SOK C cf cs XR k s
  | .bad => fun X sc W x g E F tk h => ps_stuck fun _ _ => rfl
  | .expr e => fun X sc W x g E F tk h => by
    cases x <;> first | exact nomatch (show false = true from h) | skip
    rename_i y p
    have h : (!isCompX y && ckE C sc e y) = true := h
    rw [Bool.and_eq_true] at h
    exact s_expr (comp_no h.1) (e_ok e X sc W y g F.esc tk h.2).1
  | .ret e => fun X sc W x g E F tk h => by
    cases x <;> first | exact nomatch (show false = true from h) | skip
    rename_i y p
    cases y <;> first | exact nomatch (show false = true from h) | skip
    rename_i y
    exact s_ret (e_ok e X sc W y g F.esc tk h).1
  | .retN => fun X sc W x g E F tk h => by
    cases x <;> first | exact nomatch (show false = true from h) | skip
    rename_i y p
    cases y <;> first | exact nomatch (show false = true from h) | skip
    exact s_retN
  | .asg t e => fun X sc W x g E F tk h => by
    cases x <;> first | exact nomatch (show false = true from h) | skip
    rename_i ts y p
    match ts, h with
    | [x], h =>
      have h : (!isCompX y && plainTg x && noSwap sc x y && ckT C sc t x && ckE C sc e y) = true := h
      simp only [Bool.and_eq_true] at h
      obtain ⟨⟨⟨⟨h1, h2⟩, h3⟩, h4⟩, h5⟩ := h
      exact s_asg F.esc (comp_no h1) h2 h3 (tg_ok g.N g.nd g.calm F.gt t x h4) (e_ok e X sc W y g F.esc tk h5).1
    | [], h => exact nomatch (show false = true from h)
    | _ :: _ :: _, h => exact nomatch (show false = true from h)
  | .asgL i l nw => fun X sc W x g E F tk h => by
    cases x <;> first | exact nomatch (show false = true from h) | skip
    rename_i ts y p
    match ts, h with
    | [x], h =>
      cases x <;> first | exact nomatch (show false = true from h) | skip
      rename_i id p2
      have h : (decide (C.N[i]? = some id) && locB sc id && ckSw sc id p2 y && ckL C sc l y) = true := h
      simp only [Bool.and_eq_true] at h
      obtain ⟨⟨⟨h1, h2⟩, h3⟩, h4⟩ := h
      exact (l_ok l X sc W y g F.esc tk h4).2 i nw id p2 p F.gt F.kind (of_decide_eq_true h1) h2 h3
    | [], h => exact nomatch (show false = true from h)
    | x :: _ :: _, h => cases x <;> exact nomatch (show false = true from h)
  | .par is es => fun X sc W x g E F tk h => by
    cases x <;> first | exact nomatch (show false = true from h) | skip
    rename_i ts y p
    match ts, h with
    | [x], h =>
      cases x <;> first | exact nomatch (show false = true from h) | skip
      rename_i ts k1 p1
      cases y <;> first | exact nomatch (show false = true from h) | skip
      rename_i vs k2 p2 _
      have h : (ckPar C sc is ts vs && ckEs C sc es vs) = true := h
      rw [Bool.and_eq_true] at h
      exact par_ok g F h.1 (all_evs (es_ok es X sc W vs g F.esc tk h.2))
    | [], h => exact nomatch (show false = true from h)
    | x :: _ :: _, h => cases x <;> exact nomatch (show false = true from h)
  | .aug i op e => fun X sc W x g E F tk h => by
    cases op <;> first | exact nomatch (show false = true from h) | skip
    all_goals
      cases x <;> first | exact nomatch (show false = true from h) | skip
      rename_i t o y p
      cases t <;> first | exact nomatch (show false = true from h) | skip
      rename_i id p2
      cases o <;> first | exact nomatch (show false = true from h) | skip
      have h : (decide (C.N[i]? = some id) && locB sc id && ckE C sc e y) = true := h
      simp only [Bool.and_eq_true] at h
    · exact s_augAdd g.N g.nd (of_decide_eq_true h.1.1) (F.gt _ h.1.2) (e_ok e X sc W y g F.esc tk h.2).1
    · exact s_augSub g.N g.nd (of_decide_eq_true h.1.1) (F.gt _ h.1.2) (e_ok e X sc W y g F.esc tk h.2).1
  | .app i e => fun X sc W x g E F tk h => by
    have hsc := F.esc
    subst hsc
    have inv : ∃ id p ap y cp pos, x = .Expr (.Call (.Attribute (.Name id p) "append" ap) [y] [] cp) pos ∧ C.N[i]? = some id ∧ visB X.env.scope id = true ∧ plainN id = true ∧ (ap.endLine == cp.line) = true ∧ ckE C X.env.scope e y = true := by
      unfold ckS at h
      split at h <;> first | exact nomatch (show false = true from h) | skip
      all_goals first | (rename_i q; exact S.noConfusion q) | (rename_i q _; exact S.noConfusion q) | (rename_i q _ _; exact S.noConfusion q) | skip
      rename_i q
      injection q with z1 z2
      subst z1 z2
      simp only [Bool.and_eq_true, decide_eq_true_eq] at h
      obtain ⟨⟨⟨⟨⟨h1, h2⟩, h3⟩, h4⟩, h5⟩, h6⟩ := h
      subst h1
      exact ⟨_, _, _, _, _, _, rfl, h2, h3, h4, h5, h6⟩
    obtain ⟨id, p, ap, y, cp, pos, rfl, h1, h2, h3, h4, h5⟩ := inv
    exact s_app g.N h1 (vis_of h2) h3 h4 (ns_of h5) (e_ok e X _ W y g rfl tk h5).1
  | .ite c a b => fun X sc W x g E F tk h => by
    cases x <;> first | exact nomatch (show false = true from h) | skip
    rename_i y ys zs p
    have h : (ckE C sc c y && ckSs C sc a ys && ckSs C sc b zs) = true := h
    simp only [Bool.and_eq_true] at h
    exact s_if (e_ok c X sc W y g F.esc tk h.1.1).2 (ss_ok a X sc W ys g E F tk h.1.2) (ss_ok b X sc W zs g E F tk h.2)
  | .for t it b => fun X sc W x g E F tk h => by
    cases x <;> first | exact nomatch (show false = true from h) | skip
    rename_i tg iter ys els p
    cases els <;> first | exact nomatch (show false = true from h) | skip
    have h : (ckT C sc t tg && ckI C sc it tg iter && plainIt iter && ckSs C sc b ys) = true := h
    simp only [Bool.and_eq_true] at h
    exact s_for F g.calm (i_ok it X sc W tg iter g F.esc tk h.1.1.2) h.1.2 (tg_ok g.N g.nd g.calm F.gt t tg h.1.1.1) (ss_ok b X sc W ys g E F tk h.2)
  | .raise c es => fun X sc W x g E F tk h => by
    have hsc := F.esc
    subst hsc
    have inv : ∃ id p p2 pos, es = .nil ∧ x = .Raise (some (.Call (.Name id p) [] [] p2)) none pos ∧ C.EN[c]? = some id ∧ glB X.env.scope id = true ∧ plainN id = true := by
      unfold ckS at h
      split at h <;> first | exact nomatch (show false = true from h) | skip
      all_goals first | (rename_i q; exact S.noConfusion q) | (rename_i q _; exact S.noConfusion q) | (rename_i q _ _; exact S.noConfusion q) | skip
      rename_i q
      injection q with z1 z2
      subst z1 z2
      simp only [Bool.and_eq_true, decide_eq_true_eq] at h
      exact ⟨_, _, _, _, rfl, rfl, h.1.1, h.1.2, h.2⟩
    obtain ⟨id, p, p2, pos, rfl, rfl, h1, h2, h3⟩ := inv
    exact s_raise E g.calm tk h1 (gl_of h2) (plainN_of h3).1
  | .tryR b hs => fun X sc W x g E F tk h => by
    cases x <;> first | exact nomatch (show false = true from h) | skip
    rename_i ys hds els fin p
    match hds, els, fin, h with
    | hd :: hds, [], [], h =>
      have h : (ckSs C sc b ys && ckHs C sc hs (hd :: hds)) = true := h
      rw [Bool.and_eq_true] at h
      exact s_try E F g.N g.nd (G.blt g _ (by unfold builtNames; simp)) tk h.2 fun W' pn xe tk' po => ss_ok b (X.tr pn xe) sc W' ys (g.tr pn xe) E ⟨F.esc, F.kind, F.gt, po, F.stk, F.fr⟩ tk' h.1
    | [], _, _, h => exact nomatch (show false = true from h)
    | _ :: _, _ :: _, _, h => exact nomatch (show false = true from h)
    | _ :: _, [], _ :: _, h => exact nomatch (show false = true from h)
  | .cont => fun X sc W x g E F tk h => by
    cases x <;> first | exact nomatch (show false = true from h) | skip
    exact s_cont
  | .brk => fun X sc W x g E F tk h => by
    cases x <;> first | exact nomatch (show false = true from h) | skip
    exact s_brk
  | .pass => fun X sc W x g E F tk h => by
    cases x <;> first | exact nomatch (show false = true from h) | skip
    exact s_pass
theorem ss_ok : ∀ s : Ss, SsOK C cf cs XR k s
  | .nil => fun X sc W xs g E F tk h => by
    cases xs with
    | nil => exact s_ss0
    | cons => exact nomatch (show false = true from h)
  | .cons s ss => fun X sc W xs g E F tk h => by
    cases xs with
    | nil => exact nomatch (show false = true from h)
    | cons x xs =>
      have h : (ckS C sc s x && ckSs C sc ss xs) = true := h
      rw [Bool.and_eq_true] at h
      exact s_ss (s_ok s X sc W x g E F tk h.1) (ss_ok ss X sc W xs g E F tk h.2)
end
end
end Sd

/-! Sd: defs. -/
namespace Sd
open L2 PySem PySem.Spec PyProof.Rows
section
variable {K : PySem.W.Frag} {XR : XT}
def Ad.take (A : Ad) (n : Nat) : Ad := ⟨A.l.take n, A.fr⟩
theorem ST.take {I H : Hp} {A : Ad} {m : MH} (st : ST K I A m H) (n : Nat) : ST K I (A.take n) (m.take n) H := by
  refine ⟨st.sub, by show (A.l.take n).length = _; rw [List.length_take, List.length_take, st.len], st.nd.sublist (List.take_sublist _ _), fun i o a h1 h2 => ?_, fun b o q => ?_⟩
  · have h2 : (A.l.take n)[i]? = some a := h2
    rw [List.getElem?_take] at h1 h2
    split at h1
    · rename_i hi
      rw [if_pos hi] at h2
      exact st.obj i o a h1 h2
    · cases h1
  · obtain ⟨x1, x2, x3⟩ := st.fr b o q
    exact ⟨x1, x2, fun z => x3 (List.mem_of_mem_take z)⟩
theorem Ext.take {I I' : Hp} {A A' : Ad} {n : Nat} (e : Ext I A I' A') (h : A.l.length ≤ n) : Ext I A I' (A'.take n) :=
  ⟨e.sub, fun i a q => by
    show (A'.l.take n)[i]? = some a
    have hi : i < A.l.length := (List.getElem?_eq_some_iff.mp q).1
    rw [List.getElem?_take_of_lt (by omega)]
    exact e.pre i a q, e.fr⟩
/-- a call's end -/
theorem fin_ok {W : WX} {s : L2.St} {I I' H' : Hp} {A A' : Ad} {m m' : MH} {v : RV} {y : V} {Q : VK} {H : Hp} (st0 : ST K I A m H) (o : Out K XR (relE K) W s I A (fin m.length v m') Q) (e : Ext I A I' A') (st : ST K I' A' m' H') (r : RR K I' A' v y) : Q y H' := by
  have hl : A.l.length ≤ m.length := Nat.le_of_eq st0.len
  have st' := st.take m.length
  have e' := e.take (n := m.length) hl
  cases v with
  | v x => exact o I' _ H' y e' st' r
  | r a =>
    have o : Out K XR (relE K) W s I A (if a < m.length then .ok (.r a) (m'.take m.length) else match snap (.r a) m' with
      | some x => .ok (.v x) (m'.take m.length)
      | none => .stuck) Q := o
    split at o
    · rename_i ha
      obtain ⟨b, hb, rfl⟩ := r
      exact o I' _ H' _ e' st' ⟨b, by show (A'.l.take m.length)[a]? = some b; rw [List.getElem?_take_of_lt ha]; exact hb, rfl⟩
    · rename_i ha
      cases q : snap (.r a) m' with
      | none => rw [q] at o; exact o.elim
      | some x =>
        rw [q] at o
        obtain ⟨b, hb, rfl⟩ := r
        have q : (match m'[a]? with
          | some (.lst xs) => some (PyData.list xs)
          | some (.fz xs) => some (.list xs)
          | none => none) = some x := q
        cases qm : m'[a]? with
        | none => rw [qm] at q; cases q
        | some ob =>
          rw [qm] at q
          have ok := st.obj a ob b qm hb
          cases ob with
          | fz xs =>
            cases q
            obtain ⟨vs, h1, h2⟩ := ok
            exact o I' _ H' _ e' st' (.lst (SqL.of h1) h2)
          | lst xs =>
            cases q
            obtain ⟨hI, vs, h1, h2⟩ := ok
            have hA : b ∉ A'.take m.length := by
              refine Ad.out_of (fun z => ?_) ?_
              · have z : b ∈ A'.l.take m.length := z
                obtain ⟨i, hi, ei⟩ := List.getElem_of_mem z
                have e1 : (A'.l.take m.length)[i]? = some b := by rw [List.getElem?_eq_getElem hi, ei]
                rw [List.length_take] at hi
                have hi' : i < m.length := by omega
                rw [List.getElem?_take_of_lt hi'] at e1
                have := ST.write.nodup_ix2 st.nd e1 hb
                omega
              · show A'.fr b = none
                cases qf : A'.fr b with
                | none => rfl
                | some ob => exact ((st.fr b ob qf).2.2 (List.mem_of_getElem? hb)).elim
            exact o _ _ H' _ (e'.trans (ext_upd hI)) (st'.keepI hA hI h1) (.lst (SqL.of upd_same) (dps_sub (sub_upd hI) h2))
theorem sr_start {I : Hp} {A : Ad} {args : List RV} {vs : List V} {N : List Str} (r : RRs K I A args vs) : SR K I A (start N.length args) (L2.start N vs) := by
  have hl := RRs.len r
  refine ⟨?_, fun i x q => ?_⟩
  · unfold start L2.start
    rw [List.length_append, List.length_append, List.length_map, List.length_map, List.length_replicate, List.length_replicate, hl]
  · unfold start at q
    unfold L2.start
    by_cases hi : i < args.length
    · rw [List.getElem?_append_left (by rw [List.length_map]; exact hi), List.getElem?_map] at q
      cases q1 : args[i]? with
      | none => rw [q1] at q; cases q
      | some z =>
        rw [q1] at q
        cases q
        obtain ⟨y, h1, h2⟩ := RRs.get r q1
        refine ⟨y, ?_, h2⟩
        rw [List.getElem?_append_left (by rw [List.length_map, ← hl]; exact hi), List.getElem?_map, h1]
        rfl
    · rw [List.getElem?_append_right (by rw [List.length_map]; omega), List.getElem?_replicate] at q
      split at q <;> cases q
end
/-- a def of the program -/
structure DefT where
  id : Str
  N : List Str
  ps : List Str
  params : Arguments
  body : List Stmt
  scope : Scope
section
variable {P : Program} {w : World} {K : PySem.W.Frag} {mg : Str → Option Value} {base : Heap} {XR : XT} {C0 : CK} {ft : List FD} {cs : List PyData} {ds : List DefT} {fa : Nat → Addr} {fds : Nat → FuncData}
/-- what the texts say -/
def defC (C0 : CK) (d : DefT) (f : FD) : Bool := decide (f.np = d.ps.length) && decide (f.ns = d.N.length) && ckSs { C0 with N := d.N } d.scope f.body d.body
/-- what the heap says -/
structure MgOk (C0 : CK) (K : PySem.W.Frag) (mg : Str → Option Value) (cs : List PyData) (ds : List DefT) (fa : Nat → Addr) (fds : Nat → FuncData) : Prop where
  blt : ∀ x ∈ builtNames, mg x = none
  lcm : C0.lcm = true → mg "lcm" = some (.builtin "math.lcm")
  comb : C0.comb = true → mg "combinations" = some (.type "itertools.combinations")
  con : ∀ (g : Nat) (id : Str) (x : PyData), C0.CN[g]? = some id → cs[g]? = some x → ∃ i t, x = .int i ∧ mg id = some (.int i t)
  fn : ∀ (g : Nat) (d : DefT), ds[g]? = some d → FunD K d.id d.id d.params d.body d.scope [] [] (fa g) (fds g) ∧ mg d.id = some (.ref (fa g)) ∧ Binds K (fds g) d.ps [] ∧ ∀ names perm, (g, names, perm) ∈ C0.KW → KBinds K (fds g) d.ps names (gK perm) (gK perm)
theorem prog_ok (M : MgOk C0 K mg cs ds fa fds) (EX : ExG C0 K mg XR) (hFN : ∀ (g : Nat) (id : Str), C0.FN[g]? = some id → ∃ d, ds[g]? = some d ∧ d.id = id) (hft : ∀ (g : Nat) (d : DefT) (f : FD), ds[g]? = some d → ft[g]? = some f → FnScope d.N d.ps d.scope ∧ defC C0 d f = true) :
    ∀ (k g : Nat) (d : DefT), ds[g]? = some d → FnOk P w K mg base (L2.CX P w) k (fa g) (fds g) d.ps (spOf K XR (callN ft cs k) g)
  | 0, g, d, hd => by
    have no : ∀ vs H Q E, ¬ spOf K XR (callN ft cs 0) g vs H Q E := fun vs H Q E ⟨_, _, _, _, _, _, o⟩ => o
    exact ⟨fun vs H Q E h => (no _ _ _ _ h).elim, fun A outer s H args us vs Q E _ _ _ _ h => (no _ _ _ _ h).elim⟩
  | k + 1, g, d, hd => by
    obtain ⟨F, hm, hb, _⟩ := M.fn g d hd
    cases hg : ft[g]? with
    | none =>
      have no : ∀ vs H Q E, ¬ spOf K XR (callN ft cs (k + 1)) g vs H Q E := fun vs H Q E ⟨_, _, m, args, _, _, o⟩ => by
        have o : Out K XR (relE K) (fun c d _ H' => E c d H') [] _ _ (match ft[g]? with
          | some d => if args.length = d.np then
              match exs (callN ft cs k) cs d.body (start d.ns args) m with
              | .rt v h' => fin m.length v h'
              | .nx _ h' => fin m.length (.v .none) h'
              | .exn c xs _ h' => .exn c xs (h'.take m.length)
              | _ => .stuck
            else .stuck
          | none => .stuck) Q := o
        rw [hg] at o
        exact o
      exact ⟨fun vs H Q E h => (no _ _ _ _ h).elim, fun A outer s H args us vs Q E _ _ _ _ h => (no _ _ _ _ h).elim⟩
    | some f =>
      obtain ⟨S, hc⟩ := hft g d f hd hg
      unfold defC at hc
      simp only [Bool.and_eq_true, decide_eq_true_eq] at hc
      obtain ⟨⟨h1, h2⟩, h3⟩ := hc
      have open_ : ∀ vs H Q E, spOf K XR (callN ft cs (k + 1)) g vs H Q E → ∃ I A m args, ST K I A m H ∧ RRs K I A args vs ∧ args.length = f.np ∧ Out K XR (relE K) (fun c d _ H' => E c d H') [] I A (match exs (callN ft cs k) cs f.body (start f.ns args) m with
          | .rt v h' => fin m.length v h'
          | .nx _ h' => fin m.length (.v .none) h'
          | .exn c xs _ h' => .exn c xs (h'.take m.length)
          | _ => .stuck) Q := fun vs H Q E ⟨I, A, m, args, st, r, o⟩ => by
        have o : Out K XR (relE K) (fun c d _ H' => E c d H') [] I A (match ft[g]? with
          | some d => if args.length = d.np then
              match exs (callN ft cs k) cs d.body (start d.ns args) m with
              | .rt v h' => fin m.length v h'
              | .nx _ h' => fin m.length (.v .none) h'
              | .exn c xs _ h' => .exn c xs (h'.take m.length)
              | _ => .stuck
            else .stuck
          | none => .stuck) Q := o
        rw [hg] at o
        dsimp only at o
        by_cases hl : args.length = f.np
        · rw [if_pos hl] at o
          exact ⟨I, A, m, args, st, r, hl, o⟩
        · rw [if_neg hl] at o
          exact o.elim
      refine F.ok S (fun vs H Q E h => ?_) fun cdv A outer s H vs Q E hr hsp => ?_
      · obtain ⟨I, A, m, args, st, r, hl, _⟩ := open_ vs H Q E h
        rw [← RRs.len r, hl, h1]
      · obtain ⟨I, A0, m, args, st, r, hl, o⟩ := open_ vs H Q E hsp
        let Y := cxOf (L2.CX P w) P w K mg base d.N d.id d.scope (fa g) cdv A outer s H E
        have GY : G { C0 with N := d.N } (callN ft cs k) cs XR k Y := ⟨rfl, rfl, S.nd, hr, M.blt, fun g' id hid => by
          obtain ⟨d', hd', rfl⟩ := hFN g' id hid
          obtain ⟨F', hm', hb', kw'⟩ := M.fn g' d' hd'
          exact ⟨fa g', fds g', d'.ps, hm', F'.kp, hb', prog_ok M EX hFN hft k g' d' hd', kw'⟩, M.lcm, M.comb, M.con⟩
        have FY : FX d.scope Y := ⟨rfl, S.kind, fun id h => ⟨loc_of h, .inl rfl⟩, PassesOwn.leaving, rfl, rfl⟩
        have tk : Takes Y (fun cls dd _ H' => E cls dd H') := takes_of rfl rfl rfl rfl
        have EY : ExG { C0 with N := d.N } Y.K Y.mg XR := ⟨EX.one, EX.two, EX.non⟩
        refine ⟨_, ss_ok f.body Y d.scope (fun cls dd _ H' => E cls dd H') d.body GY EY FY tk h3, ?_⟩
        refine ⟨I, A0, start f.ns args, m, st, by rw [h2]; exact sr_start r, ?_⟩
        cases q : exs (callN ft cs k) cs f.body (start f.ns args) m with
        | nx σ' m' =>
          rw [q] at o
          exact fun I' A' H' s' e st' sr' => fin_ok st o e st' (v := .v .none) .non
        | rt v m' =>
          rw [q] at o
          exact fun I' A' H' y e st' r' => fin_ok st o e st' r'
        | exn c xs σ' m' =>
          rw [q] at o
          exact fun I' A' H' s' cls dd e st' sr' x => o I' (A'.take m.length) H' cls dd (e.take (Nat.le_of_eq st.len)) (st'.take m.length) x
        | bk σ' m' => rw [q] at o; exact o.elim
        | ct σ' m' => rw [q] at o; exact o.elim
        | stuck => rw [q] at o; exact o.elim
end
end Sd

/-! Sd: the head, the end. -/
namespace Sd
open L2 PySem PySem.Spec PyProof.Rows
/-! ### what is asked of the written part -/
/-- an own exception class without own __init__ over the class of that name -/
def excX (K : PySem.W.Frag) (x base : Str) : Bool :=
  PySem.W.excIn K (He.ga K x) He.veBase "ValueError.__new__" && PySem.W.keepIn K (.ref (He.ga K x)) && decide (PySem.W.subIn K (.ref (He.ga K x)) (.type "BaseException") = some true) && decide (PySem.W.typeIn K (.ref (He.ga K x)) = some (.type "type")) &&
  decide (PySem.W.findIn K (.ref (He.ga K x)) "__getattribute__" = some (some (.builtin "BaseException.__getattribute__"))) && decide (PySem.W.findIn K (.ref (He.ga K x)) "__getattr__" = some none) && PySem.W.hasDictIn K (He.ga K x) &&
  decide (PySem.W.findIn K (.ref (He.ga K x)) "__class__" = some (some (.builtin "object.__class__"))) && decide (PySem.W.specialIn K (.builtin "object.__class__") "__get__" = some (some (.builtin "getset_descriptor.__get__"))) && decide (PySem.W.takesIn K (.builtin "object.__class__") = some true) &&
  decide (PySem.W.mroIn K (He.ga K x) (.type "object") = some true) && decide (base = ("ValueError" : Str)) && decide (PySem.W.kitOne K (.ref (He.ga K x)) (.type "ValueError") = some true)
theorem boot_VE : bootBuiltins "ValueError" = some (.type "ValueError") := by decide +kernel
theorem excX_ok {K : PySem.W.Frag} {mg : Str → Option Value} {x base : Str} (h : excX K x base = true) (hm : mg x = some (.ref (He.ga K x))) (hb : mg base = none) : ExOk K mg x base (He.ga K x) := by
  unfold excX at h
  simp only [Bool.and_eq_true, decide_eq_true_eq] at h
  obtain ⟨⟨⟨⟨⟨⟨⟨⟨⟨⟨⟨⟨h1, h2⟩, h3⟩, h4⟩, h5⟩, h6⟩, h7⟩, h8⟩, h9⟩, h10⟩, h11⟩, h12⟩, h13⟩ := h
  subst h12
  exact ⟨hm, ⟨_, _, _, _, PySem.F.excBase_ValueError, h1⟩, h2, h3, h4, ⟨h5, h6, h3, h7, h8, h9, h10, h11⟩, "ValueError", boot_VE, by decide, by decide, hb, h13⟩
def exX (C0 : CK) (K : PySem.W.Frag) : Bool :=
  ((C0.EN.zip C0.EB).all fun p => excX K p.1 p.2) && decide (C0.EN.length = C0.EB.length) &&
  (!C0.lcm || decide (PySem.W.nsIn K mainGlobals "lcm" = some (some (.builtin "math.lcm")))) && (!C0.comb || decide (PySem.W.nsIn K mainGlobals "combinations" = some (some (.type "itertools.combinations"))))
/-! ### the Hook -/
def obX (n : Nat) (fa : List He.Fa) (fn : List He.DefD) (ex : PySem.W.Frag → Bool) (g : Addr → Option Obj) : He.AlD × Bool := (He.obsD fa fn (He.frG g (He.asD g n)), ex (He.frG g (He.asD g n)))
def hookX (n : Nat) (fa : List He.Fa) (fn : List He.DefD) (ex : PySem.W.Frag → Bool) : PySem.W.Hook where
  α := He.AlD × Bool
  obs := fun s => obX n fa fn ex s.heap.get?
  val := fun _ => (He.valD fn, true)
  says := fun _ h => ∃ K : PySem.W.Frag, K.In h ∧ He.SaysD fa fn K ∧ ex K = true
  of := fun _ _ e => ⟨_, He.frG_in, congrArg Prod.fst e, congrArg Prod.snd e⟩
  keeps := fun _ _ _ ⟨K, hK, c⟩ k => ⟨K, PySem.W.Frag.In.keeps hK k, c⟩
theorem obX_eq {n : Nat} {fa : List He.Fa} {fn : List He.DefD} {ex : PySem.W.Frag → Bool} {g : Addr → Option Obj} {s : Shared} (h : ∀ a, g a = s.heap.get? a) : obX n fa fn ex g = (hookX n fa fn ex).obs s := by
  have e : g = s.heap.get? := funext h
  rw [e] <;> rfl
/-! ### lists of facts -/
def heFn (ds : List DefT) : List He.DefD := ds.map fun d => ⟨(d.id, none), d.id, d.id, d.params, d.body, d.scope, [], []⟩
def intOf : PyData → Int
  | .int i => i
  | _ => 0
def isIntD : PyData → Bool
  | .int _ => true
  | _ => false
def pairs : Nat → List Str → List (Nat × Str)
  | _, [] => []
  | n, x :: r => (n, x) :: pairs (n + 1) r
theorem pairs_get : ∀ {l : List Str} {n i : Nat} {x : Str}, l[i]? = some x → (n + i, x) ∈ pairs n l
  | [], _, _, _, h => by simp at h
  | y :: r, n, 0, x, h => by
    simp at h
    subst h
    exact List.mem_cons_self ..
  | y :: r, n, i + 1, x, h => by
    have := pairs_get (l := r) (n := n + 1) (i := i) (x := x) (by simpa using h)
    have e : n + 1 + i = n + (i + 1) := by omega
    rw [e] at this
    exact List.mem_cons_of_mem _ this
def heFa (C0 : CK) (cs : List PyData) (ds : List DefT) : List He.Fa :=
  (ds.map fun d => He.Fa.glo d.id) ++ (builtNames.map He.Fa.free) ++ (C0.EB.map He.Fa.free) ++ (C0.EN.map He.Fa.glo) ++ ((C0.CN.zip cs).map fun p => He.Fa.int p.1 (intOf p.2)) ++
    ((pairs 0 C0.EN).flatMap fun p => (pairs 0 C0.EN).map fun q => He.Fa.exm p.2 q.2 (decide (p.1 = q.1)))
/-! ### binding -/
theorem pickG_none : ∀ {perm : List Nat} {vs : List V} {us : List Value}, Vals vs us → pick vs perm = none → pick us perm = none
  | [], _, _, r, e => by cases e
  | i :: p, vs, us, r, e => by
    unfold pick at e ⊢
    cases q1 : vs[i]? with
    | none => rw [r.none_of q1]
    | some v =>
      obtain ⟨u, hu, _⟩ := r.get q1
      rw [q1] at e
      cases q2 : pick vs p with
      | some l => rw [q2] at e; cases e
      | none => rw [hu, pickG_none r q2]
theorem kb_of {K : PySem.W.Frag} {x q : Str} {params : Arguments} {body : List Stmt} {scope : Scope} {f : Addr} {fd : FuncData} {ps names : List Str} {perm : List Nat} (F : FunD K x q params body scope [] [] f fd) (hp : ps ≠ [])
    (h : ∀ (kV doc pm : Value) (an : Option Addr) (cdv ct : Value) (ws : List Value), (gK perm [] ws).length = ps.length → bindArgs (PySem.W.fnOf x q params body scope .none kV doc pm an cdv ct) ⟨[], names.zip ws⟩ = pure (ps.zip (gK perm [] ws))) : KBinds K fd ps names (gK perm) (gK perm) := by
  refine ⟨fun s us ws _ hl => ?_, fun {vs us zs ws} r rz => ?_⟩
  · cases us with
    | cons u us =>
      have hl : 0 = ps.length := hl
      exact absurd (List.length_eq_zero_iff.mp hl.symm) hp
    | nil =>
      obtain ⟨oc, od, dV, kV, doc, pm, an, cdv, ct, osl, rfl, lk, hcd, hD, hK⟩ := F.ex
      rcases hD with ⟨_, rfl⟩ | ⟨e, _⟩
      · exact BindsTo.of_eq (h kV doc pm an cdv ct ws hl)
      · exact absurd rfl e
  · cases r with
    | cons _ _ => exact .nil
    | nil =>
      show Vals ((pick zs perm).getD []) ((pick ws perm).getD [])
      cases q1 : pick zs perm with
      | none => rw [pickG_none rz q1]; exact .nil
      | some l =>
        obtain ⟨xs, hx, rx⟩ := pickG_rel rz q1
        rw [hx]
        exact rx
/-- how each def binds -/
def BindAll (C0 : CK) : Nat → List DefT → Prop
  | _, [] => True
  | g, d :: r => (∀ (K : PySem.W.Frag) (f : Addr) (fd : FuncData), FunD K d.id d.id d.params d.body d.scope [] [] f fd → L2.Binds K fd d.ps [] ∧ ∀ names perm, (g, names, perm) ∈ C0.KW → KBinds K fd d.ps names (gK perm) (gK perm)) ∧ BindAll C0 (g + 1) r
theorem bindAll_get {C0 : CK} : ∀ {ds : List DefT} {n g : Nat} {d : DefT}, BindAll C0 n ds → ds[g]? = some d → ∀ (K : PySem.W.Frag) (f : Addr) (fd : FuncData), FunD K d.id d.id d.params d.body d.scope [] [] f fd → L2.Binds K fd d.ps [] ∧ ∀ names perm, (n + g, names, perm) ∈ C0.KW → KBinds K fd d.ps names (gK perm) (gK perm)
  | [], _, _, _, _, h => by simp at h
  | e :: r, n, 0, d, ⟨b, _⟩, h => by
    simp at h
    subst h
    exact b
  | e :: r, n, g + 1, d, ⟨_, b⟩, h => by
    have := bindAll_get b (g := g) (d := d) (by simpa using h)
    have e : n + 1 + g = n + (g + 1) := by omega
    rw [e] at this
    exact this
/-- what the texts say of all defs -/
def scopeB (d : DefT) : Bool :=
  (match d.scope.kind with
    | .function => true
    | _ => false) && !d.scope.isCoroutine && !d.scope.isGenerator && decide d.N.Nodup && decide (d.N.take d.ps.length = d.ps) && (d.ps.all fun x => locB d.scope x) && d.scope.names.all fun y => !(y.2 == .free)
theorem scopeB_ok {d : DefT} (h : scopeB d = true) : FnScope d.N d.ps d.scope := by
  unfold scopeB at h
  simp only [Bool.and_eq_true, decide_eq_true_eq, List.all_eq_true, Bool.not_eq_true'] at h
  obtain ⟨⟨⟨⟨⟨⟨h1, h2⟩, h3⟩, h4⟩, h5⟩, h6⟩, h7⟩ := h
  refine ⟨?_, h2, h3, h4, h5, fun x hx => loc_of (h6 x hx), fun y hy e => ?_⟩
  · split at h1
    · assumption
    · cases h1
  · have := h7 y hy
    rw [e] at this
    cases this
def textB (C0 : CK) (ds : List DefT) (ft : List FD) (cs : List PyData) : Bool := ((ds.zip ft).all fun p => scopeB p.1 && defC C0 p.1 p.2) && decide (C0.FN = ds.map (·.id)) && cs.all isIntD
theorem zip_get {α β : Type} : ∀ {xs : List α} {ys : List β} {i : Nat} {x : α} {y : β}, xs[i]? = some x → ys[i]? = some y → (x, y) ∈ xs.zip ys
  | [], _, _, _, _, h, _ => by simp at h
  | _ :: _, [], _, _, _, _, h => by simp at h
  | a :: xs, b :: ys, 0, x, y, h, g => by
    simp at h g
    subst h g
    exact List.mem_cons_self ..
  | a :: xs, b :: ys, i + 1, x, y, h, g => List.mem_cons_of_mem _ (zip_get (by simpa using h) (by simpa using g))
section
variable {P : Program} {w : World} {K : PySem.W.Frag} {mg : Str → Option Value} {h : Heap} {C0 : CK} {ft : List FD} {cs : List PyData} {ds : List DefT}
/-- how an exception of the program lies -/
def xrOf (C0 : CK) (K : PySem.W.Frag) : XT := fun c xs cls d _ _ => xs = [] ∧ d = none ∧ ∃ id, C0.EN[c]? = some id ∧ cls = .ref (He.ga K id)
theorem fa_in (c : He.SaysD (heFa C0 cs ds) (heFn ds) K) {f : He.Fa} (hf : f ∈ heFa C0 cs ds) : f.ok K = true := by
  obtain ⟨i, hi, e⟩ := List.getElem_of_mem hf
  exact c.fact i (f := f) (by rw [List.getElem?_eq_getElem hi, e])
theorem facts_ok (X : K.In h) (G0 : h.Ns mainGlobals mg) (c : He.SaysD (heFa C0 cs ds) (heFn ds) K) (e : exX C0 K = true) (T : textB C0 ds ft cs = true) (B : BindAll C0 0 ds) {d0 : DefT} (h0 : d0 ∈ ds) :
    ExG C0 K mg (xrOf C0 K) ∧ ∃ fds : Nat → FuncData, MgOk C0 K mg cs ds (fun g => He.ga K ((ds[g]?.map (·.id)).getD .empty)) fds := by
  have fr : ∀ {x : Str}, He.Fa.free x ∈ heFa C0 cs ds → mg x = none := fun hf => He.free_ok X G0 (fa_in c hf)
  have gl : ∀ {x : Str}, He.Fa.glo x ∈ heFa C0 cs ds → mg x = some (.ref (He.ga K x)) := fun hf => He.glo_ok X G0 (fa_in c hf)
  unfold exX at e
  simp only [Bool.and_eq_true, List.all_eq_true, decide_eq_true_eq] at e
  obtain ⟨⟨⟨e1, e2⟩, e3⟩, e4⟩ := e
  unfold textB at T
  simp only [Bool.and_eq_true, List.all_eq_true, decide_eq_true_eq] at T
  obtain ⟨⟨t1, t2⟩, t3⟩ := T
  have gEN : ∀ {c : Nat} {id : Str}, C0.EN[c]? = some id → mg id = some (.ref (He.ga K id)) := fun {c id} hi => gl (by
    unfold heFa
    simp only [List.mem_append, List.mem_map]
    exact .inl (.inl (.inr ⟨id, List.mem_of_getElem? hi, rfl⟩)))
  constructor
  · refine ⟨fun c' id hi => ?_, fun c1 c2 id1 id2 a b h1 h2 m1 m2 => ?_, fun c' xs cls d I H hn x => ?_⟩
    · have hlt : c' < C0.EN.length := (List.getElem?_eq_some_iff.mp hi).1
      have hb : C0.EB[c']? = some C0.EB[c'] := List.getElem?_eq_getElem (by rw [← e2]; exact hlt)
      have hbm : mg C0.EB[c'] = none := fr (by
        unfold heFa
        simp only [List.mem_append, List.mem_map]
        exact .inl (.inl (.inl (.inr ⟨_, List.mem_of_getElem? hb, rfl⟩))))
      refine ⟨He.ga K id, _, hb, excX_ok (e1 (id, C0.EB[c']) (zip_get hi hb)) (gEN hi) hbm, fun I H => ⟨rfl, rfl, id, hi, rfl⟩, fun xs cls d I H ⟨x1, x2, id', x3, x4⟩ => ?_⟩
      rw [hi] at x3
      cases x3
      exact ⟨x1, x4, x2⟩
    · have g1 := gEN h1
      have g2 := gEN h2
      rw [m1] at g1
      rw [m2] at g2
      cases g1
      cases g2
      have p1 := pairs_get (n := 0) h1
      have p2 := pairs_get (n := 0) h2
      rw [Nat.zero_add] at p1 p2
      exact He.exm_ok (fa_in c (f := .exm id1 id2 (decide (c1 = c2))) (by
        unfold heFa
        simp only [List.mem_append, List.mem_flatMap, List.mem_map]
        exact .inr ⟨_, p1, _, p2, rfl⟩))
    · obtain ⟨_, _, id, q, _⟩ := x
      rw [hn] at q
      cases q
  · have F : ∀ (g : Nat) (d : DefT), ds[g]? = some d → ∃ fd, FunD K d.id d.id d.params d.body d.scope [] [] (He.ga K d.id) fd := fun g d hd =>
      c.def_ g (d := ⟨(d.id, none), d.id, d.id, d.params, d.body, d.scope, [], []⟩) (by unfold heFn; rw [List.getElem?_map, hd]; rfl)
    obtain ⟨i0, hi0, ei0⟩ := List.getElem_of_mem h0
    obtain ⟨fd0, _⟩ := F i0 d0 (by rw [List.getElem?_eq_getElem hi0, ei0])
    obtain ⟨fds, hfds⟩ := Classical.axiomOfChoice (r := fun (g : Nat) (fd : FuncData) => ∀ d, ds[g]? = some d → FunD K d.id d.id d.params d.body d.scope [] [] (He.ga K d.id) fd) fun g => by
      cases q : ds[g]? with
      | none => exact ⟨fd0, fun d z => by cases z⟩
      | some d =>
        obtain ⟨fd, hfd⟩ := F g d q
        exact ⟨fd, fun d' z => by cases z; exact hfd⟩
    refine ⟨fds, fun x hx => fr ?_, fun q => ?_, fun q => ?_, fun g id x h1 h2 => ?_, fun g d hd => ?_⟩
    · unfold heFa
      simp only [List.mem_append, List.mem_map]
      exact .inl (.inl (.inl (.inl (.inr ⟨x, hx, rfl⟩))))
    · rw [q] at e3
      have e3 : decide (PySem.W.nsIn K mainGlobals "lcm" = some (some (.builtin "math.lcm"))) = true := by simpa using e3
      exact PySem.W.mg_of X G0 (of_decide_eq_true e3)
    · rw [q] at e4
      have e4 : decide (PySem.W.nsIn K mainGlobals "combinations" = some (some (.type "itertools.combinations"))) = true := by simpa using e4
      exact PySem.W.mg_of X G0 (of_decide_eq_true e4)
    · have ti := t3 x (List.mem_of_getElem? h2)
      cases x <;> first | exact Bool.noConfusion ti | skip
      rename_i i
      obtain ⟨t, ht⟩ := He.int_ok X G0 (fa_in c (f := .int id i) (by
        unfold heFa
        simp only [List.mem_append, List.mem_map]
        exact .inl (.inr ⟨_, zip_get h1 h2, rfl⟩)))
      exact ⟨i, t, rfl, ht⟩
    · have eg : He.ga K ((ds[g]?.map (·.id)).getD .empty) = He.ga K d.id := by rw [hd]; rfl
      have bb := bindAll_get B hd K _ _ (hfds g d hd)
      rw [Nat.zero_add] at bb
      rw [eg]
      exact ⟨hfds g d hd, gl (by
        unfold heFa
        simp only [List.mem_append, List.mem_map]
        exact .inl (.inl (.inl (.inl (.inl ⟨d, List.mem_of_getElem? hd, rfl⟩))))), bb.1, bb.2⟩
theorem text_ok (T : textB C0 ds ft cs = true) : (∀ (g : Nat) (id : Str), C0.FN[g]? = some id → ∃ d, ds[g]? = some d ∧ d.id = id) ∧ ∀ (g : Nat) (d : DefT) (f : FD), ds[g]? = some d → ft[g]? = some f → FnScope d.N d.ps d.scope ∧ defC C0 d f = true := by
  unfold textB at T
  simp only [Bool.and_eq_true, List.all_eq_true, decide_eq_true_eq] at T
  obtain ⟨⟨t1, t2⟩, t3⟩ := T
  refine ⟨fun g id hid => ?_, fun g d f h1 h2 => ?_⟩
  · rw [t2, List.getElem?_map] at hid
    cases q : ds[g]? with
    | none => rw [q] at hid; cases hid
    | some d =>
      rw [q] at hid
      exact ⟨d, rfl, Option.some.inj hid⟩
  · have := t1 (d, f) (zip_get h1 h2)
    exact ⟨scopeB_ok this.1, this.2⟩
/-- what the law's def promises of a list of ints -/
theorem law_sp {k lawN : Nat} {XR : XT} {ns : List Int} {a : Addr} {H : Hp} {m' : MH} (hS : SqL K H a (ns.map V.int)) (hp : callN ft cs k lawN [.v (.list (ns.map PyData.int))] [] = .ok (.v (.bool true)) m') :
    spOf K XR (callN ft cs k) lawN [.ref a] H (fun v _ => v = .bl true) (fun _ _ _ => False) := by
  refine ⟨H, ⟨[], fun _ => none⟩, [], [.v (.list (ns.map PyData.int))], ⟨Sub.refl H, rfl, .nil, fun i o b h1 => by simp at h1, fun b o q => by cases q⟩, .cons (.lst hS (dps_ints ns)) .nil, ?_⟩
  rw [hp]
  intro I' A' H' b e st r
  cases r
  rfl
end
end Sd

/-! Sd: a law's answer. -/
namespace Sd
open PySem
def isOk : Re RV → Bool
  | .ok (.v (.bool true)) [] => true
  | _ => false
theorem isOk_eq {r : Re RV} (h : isOk r = true) : r = .ok (.v (.bool true)) [] := by
  unfold isOk at h
  split at h
  · rfl
  · cases h
theorem len_ge {cf : CF} {cs : List PyData} {xs : List PyData} {r : Sl} (h : xs.length ≤ 100000) : ev cf cs (.cmp .ge (.bi .len (.cons (.var 0) .nil)) (.int 0)) (some (.v (.list xs)) :: r) [] = .ok (.v (.bool true)) [] := by
  have e1 : ev cf cs (.bi .len (.cons (.var 0) .nil)) (some (.v (.list xs)) :: r) [] = .ok (.v (.int xs.length)) [] := by
    show (liftO ((if sized xs then some (PyData.int xs.length) else none).map RV.v) [] : Re RV) = _
    have hs : sized xs = true := decide_eq_true h
    rw [hs]
    rfl
  show (ev cf cs (.bi .len (.cons (.var 0) .nil)) (some (.v (.list xs)) :: r) []).bind _ = _
  rw [e1]
  show Re.ok (RV.v (.bool (decide ((0 : Int) ≤ xs.length)))) [] = _
  rw [decide_eq_true (Int.natCast_nonneg _)]
theorem and_cons {cf : CF} {cs : List PyData} {e e2 : E} {es : Es} {σ : Sl} (h : ev cf cs e σ [] = .ok (.v (.bool true)) []) : evAnd cf cs (.cons e (.cons e2 es)) σ [] = evAnd cf cs (.cons e2 es) σ [] := by
  show (datP (ev cf cs e σ [])).bind _ = _
  rw [h]
  rfl
theorem call_nil {cf : CF} {cs : List PyData} {g : Nat} {σ : Sl} (h : cf g [] [] = .ok (.v (.bool true)) []) : ev cf cs (.call g .nil) σ [] = .ok (.v (.bool true)) [] := by
  show Re.bind (Re.ok [] []) (fun vs h1 => cf g vs h1) = _
  exact h
end Sd

/-! Sd: the end, for defs that may raise. -/
namespace Sd
open L2 PySem PySem.Spec PyProof.Rows
theorem walk_w {l : PySem.W.OpenLaw} {n k : Nat} {q : Program} {loose : List Str} {XP : (Str → Option Value) → Heap → Prop} {YP : World → Heap → Prop} {d : DefRec} {x : Str} (hn : l.most = some n) (hn2 : n ≤ sizeLine) (hdf : d.params.defaults = []) (hr : Room k callerA)
    (F : ∀ (w : World) (mg : Str → Option Value) (f : Addr) (h : Heap), YP w h → h.Ns mainGlobals mg → mg d.name = some (.ref f) → ∃ (K : PySem.W.Frag) (fd : FuncData) (sp : Sp), K.In h ∧ (∀ (s : Shared) (u : Value), BindsTo s fd ⟨[u], []⟩ [(x, u)]) ∧
      (∀ (H : Hp) (a : Addr) (ns : List Int), ns.length ≤ n → SqL K H a (ns.map V.int) → sp [.ref a] H (fun v _ => v = .bl true) fun _ _ _ => False) ∧ ∀ base : Heap, K.In base → base.Ns mainGlobals mg → FnOk l.prog w K mg base (L2.CX l.prog w) k f fd [x] sp) :
    PySem.W.WalkO q loose XP YP l.row.toRowW d [] (fun f vs => PySem.call f vs) := by
  refine Att.attach_call hn hdf fun w s₀ s₁ mg mb f o pm cd doc a vs ns G Y ho hd hcd hmg hobj hints hlen hg => ?_
  obtain ⟨K, fd, sp, KX, hb, hsp, hF⟩ := F w mg f _ Y G.T.g hmg
  refine law_call (CX := L2.CX l.prog w) KX G.T.g G.T.b G.T.builtins G.T.nolimit hg hobj hints (Nat.le_trans hlen hn2) hr hF hb (fun H _ hS => hsp H a ns hlen hS) fun H e s' z => ?_
  obtain ⟨_, _, _, _, _, _, _, _, _, _, _, _, z⟩ := z
  exact z
end Sd

namespace K48
open Sd
/-- is_number (thing) -/
def f0 : FD := ⟨1, 1, (.cons (.ret (.band (.cons (.isi (.var 0) .int) (.cons (.nt (.isi (.var 0) .bool)) .nil)))) .nil)⟩
/-- tuple_of (thing, part) -/
def f1 : FD := ⟨1, 2, (.cons (.ite (.isi2 (.var 0) .list .tuple) (.cons (.ret (.bi .tuple (.cons (.lst (.comp [1] (.var 1) (.seq (.var 0)) .nil (.call 1 (.cons (.var 1) .nil)))) .nil))) .nil) .nil) (.cons (.ret (.var 0)) .nil))⟩
/-- is_tuple_of (thing, many) -/
def f2 : FD := ⟨2, 2, (.cons (.ret (.band (.cons (.isi (.var 0) .tuple) (.cons (.cmp .eq (.bi .len (.cons (.var 0) .nil)) (.var 1)) .nil)))) .nil)⟩
/-- sure_channel (net, channel) -/
def f3 : FD := ⟨2, 2, (.cons (.ite (.nt (.cmp2 .le .lt (.int 0) (.var 1) (.bi .len (.cons (.var 0) .nil)))) (.cons .bad .nil) .nil) .nil)⟩
/-- first_sheet (net, channel) -/
def f4 : FD := ⟨2, 2, (.cons (.expr (.call 3 (.cons (.var 0) (.cons (.var 1) .nil)))) (.cons (.ret (.tup (.cons (.var 1) (.cons (.int 0) (.cons (.tup (.cons (.ix (.ix (.var 0) (.var 1)) (.int 2)) (.cons (.ix (.ix (.var 0) (.var 1)) (.int 3)) .nil))) (.cons (.tup .nil) .nil)))))) .nil))⟩
/-- begun_ledger (net) -/
def f5 : FD := ⟨1, 1, (.cons (.ret (.bop .mul (.tup (.cons .non .nil)) (.bi .len (.cons (.var 0) .nil)))) .nil)⟩
/-- _closes (net, ledger, times, moment, sheet, sealed, place) -/
def f6 : FD := ⟨6, 7, (.cons (.ite (.band (.cons (.cmp .nin (.var 4) (.var 5)) (.cons (.cmp .ne (.var 4) (.call 4 (.cons (.var 0) (.cons (.ix (.var 4) (.int 0)) .nil)))) .nil))) (.cons (.ret (.bl false)) .nil) .nil) (.cons (.asg (.var 6) (.ix (.var 1) (.ix (.var 4) (.int 0)))) (.cons (.ret (.bor (.cons (.isN (.var 6)) (.cons (.band (.cons (.cmp .lt (.ix (.ix (.var 6) (.int 0)) (.int 1)) (.ix (.var 4) (.int 1))) (.cons (.cmp .le (.var 3) (.bop .add (.ix (.var 6) (.int 1)) (.ix (.var 2) (.int 2)))) .nil))) .nil)))) .nil)))⟩
/-- _shows (ledger, channel, secret, place, own, _) -/
def f7 : FD := ⟨3, 6, (.cons (.asg (.var 3) (.ix (.var 0) (.var 1))) (.cons (.ret (.band (.cons (.notN (.var 3)) (.cons (.cmp .nin (.var 2) (.lst (.comp [4, 5] (.tup (.cons (.var 4) (.cons (.var 5) .nil))) (.seq (.ix (.var 3) (.int 2))) .nil (.var 4)))) .nil)))) .nil))⟩
/-- _does (net, ledger, times, moment, deed, sealed) -/
def f8 : FD := ⟨6, 6, (.cons (.ite (.cmp .eq (.ix (.var 4) (.int 0)) (.str [99, 108, 111, 115, 101])) (.cons (.ret (.call 6 (.cons (.var 0) (.cons (.var 1) (.cons (.var 2) (.cons (.var 3) (.cons (.ix (.var 4) (.int 1)) (.cons (.var 5) .nil)))))))) .nil) .nil) (.cons (.ret (.call 7 (.cons (.var 1) (.cons (.ix (.var 4) (.int 1)) (.cons (.ix (.var 4) (.int 2)) .nil))))) .nil))⟩
/-- _with_deed (ledger, moment, deed, channel, place, sheet, since, shown) -/
def f9 : FD := ⟨3, 8, (.cons (.ite (.cmp .eq (.ix (.var 2) (.int 0)) (.str [99, 108, 111, 115, 101])) (.cons (.asg (.var 3) (.ix (.ix (.var 2) (.int 1)) (.int 0))) (.cons (.asg (.var 4) (.ite (.isN (.ix (.var 0) (.var 3))) (.tup (.cons (.ix (.var 2) (.int 1)) (.cons (.var 1) (.cons (.tup .nil) .nil)))) (.bop .add (.tup (.cons (.ix (.var 2) (.int 1)) .nil)) (.slt (.ix (.var 0) (.var 3)) (.some (.int 1)) .non)))) .nil)) (.cons (.asg (.var 3) (.ix (.var 2) (.int 1))) (.cons (.asg (.tup (.cons (.var 5) (.cons (.var 6) (.cons (.var 7) .nil)))) (.ix (.var 0) (.var 3))) (.cons (.asg (.var 4) (.tup (.cons (.var 5) (.cons (.var 6) (.cons (.bop .add (.var 7) (.tup (.cons (.tup (.cons (.ix (.var 2) (.int 2)) (.cons (.var 1) .nil))) .nil))) .nil))))) .nil)))) (.cons (.ret (.bop .add (.bop .add (.slt (.var 0) .non (.some (.var 3))) (.tup (.cons (.var 4) .nil))) (.slt (.var 0) (.some (.bop .add (.var 3) (.int 1))) .non))) .nil))⟩
/-- comes (net, ledger, times, moment, row, sealed, deed, own, found, seals) -/
def f10 : FD := ⟨6, 10, (.cons (.par [7, 8, 9] (.cons (.call 1 (.cons (.var 0) .nil)) (.cons (.call 1 (.cons (.var 1) .nil)) (.cons (.call 1 (.cons (.var 5) .nil)) .nil)))) (.cons (.for (.var 6) (.seq (.call 1 (.cons (.var 4) .nil))) (.cons (.ite (.call 8 (.cons (.var 7) (.cons (.var 8) (.cons (.var 2) (.cons (.var 3) (.cons (.var 6) (.cons (.var 9) .nil))))))) (.cons (.asg (.var 8) (.call 9 (.cons (.var 8) (.cons (.var 3) (.cons (.var 6) .nil))))) .nil) .nil) .nil)) (.cons (.ret (.var 8)) .nil)))⟩
/-- is_watcher (thing, own) -/
def f11 : FD := ⟨1, 2, (.cons (.ite (.bor (.cons (.nt (.call 2 (.cons (.var 0) (.cons (.int 3) .nil)))) (.cons (.nt (.bi .all (.cons (.lst (.comp [1] (.var 1) (.seq (.var 0)) .nil (.call 0 (.cons (.var 1) .nil)))) .nil))) .nil))) (.cons (.ret (.bl false)) .nil) .nil) (.cons (.ret (.band (.cons (.cmp .ge (.ix (.var 0) (.int 0)) (.int 1)) (.cons (.cmp2 .le .lt (.int 0) (.ix (.var 0) (.int 1)) (.ix (.var 0) (.int 0))) (.cons (.cmp .ge (.ix (.var 0) (.int 2)) (.int 1)) .nil))))) .nil))⟩
/-- next_look (watcher, moment, step, first, _) -/
def f12 : FD := ⟨2, 5, (.cons (.asg (.tup (.cons (.var 2) (.cons (.var 3) (.cons (.var 4) .nil)))) (.var 0)) (.cons (.ret (.bop .add (.var 3) (.bop .mul (.var 2) (.bi .max (.cons (.int 0) (.cons (.neg (.bop .fdiv (.bop .sub (.var 3) (.var 1)) (.var 2))) .nil)))))) .nil))⟩
/-- lasts_of (watchers, moment, own) -/
def f13 : FD := ⟨2, 3, (.cons (.ret (.bi .tuple (.cons (.lst (.comp [2] (.var 2) (.seq (.var 0)) .nil (.bop .add (.call 12 (.cons (.var 2) (.cons (.var 1) .nil))) (.ix (.var 2) (.int 2))))) .nil))) .nil)⟩
/-- answered_at (watchers, moment) -/
def f14 : FD := ⟨2, 2, (.cons (.ite (.cmp .eq (.bi .len (.cons (.var 0) .nil)) (.int 0)) (.cons (.raise 0 .nil) .nil) .nil) (.cons (.ret (.bi .min (.cons (.call 13 (.cons (.var 0) (.cons (.var 1) .nil))) .nil))) .nil))⟩
/-- lags (watchers, many, own, moment) -/
def f15 : FD := ⟨1, 4, (.cons (.ite (.cmp .eq (.bi .len (.cons (.var 0) .nil)) (.int 0)) (.cons (.raise 0 .nil) .nil) .nil) (.cons (.asg (.var 1) (.int 1)) (.cons (.for (.var 2) (.seq (.var 0)) (.cons (.asg (.var 1) (.bi .lcm (.cons (.var 1) (.cons (.ix (.var 2) (.int 0)) .nil)))) .nil)) (.cons (.ite (.cmp .gt (.var 1) (.con 0)) (.cons (.raise 1 .nil) .nil) .nil) (.cons (.ret (.lst (.comp [3] (.var 3) (.rng2 (.int 1) (.bop .add (.var 1) (.int 1))) .nil (.bop .sub (.call 14 (.cons (.var 0) (.cons (.var 3) .nil))) (.var 3))))) .nil)))))⟩
/-- wait_wanted (watchers) -/
def f16 : FD := ⟨1, 1, (.cons (.ret (.bi .max (.cons (.call 15 (.cons (.var 0) .nil)) .nil))) .nil)⟩
/-- worst_moment (watchers, found) -/
def f17 : FD := ⟨1, 2, (.cons (.asg (.var 1) (.call 15 (.cons (.var 0) .nil))) (.cons (.ret (.bop .add (.index (.var 1) (.bi .max (.cons (.var 1) .nil))) (.int 1))) .nil))⟩
/-- is_enough (watchers, wait) -/
def f18 : FD := ⟨2, 2, (.cons (.ret (.band (.cons (.cmp .gt (.bi .len (.cons (.var 0) .nil)) (.int 0)) (.cons (.cmp .le (.call 16 (.cons (.var 0) .nil)) (.var 1)) .nil)))) .nil)⟩
/-- needless (watchers, wait, own, place) -/
def f19 : FD := ⟨1, 4, (.cons (.asg (.tup (.cons (.var 1) (.cons (.var 2) .nil))) (.tup (.cons (.call 16 (.cons (.var 0) .nil)) (.cons (.call 1 (.cons (.var 0) .nil)) .nil)))) (.cons (.ret (.bi .tuple (.cons (.lst (.comp [3] (.var 3) (.rng (.bi .len (.cons (.var 2) .nil))) (.cons (.call 18 (.cons (.bop .add (.slt (.var 2) .non (.some (.var 3))) (.slt (.var 2) (.some (.bop .add (.var 3) (.int 1))) .non)) (.cons (.var 1) .nil))) .nil) (.var 3))) .nil))) .nil))⟩
/-- fewest (watchers, wait, many, places, place) -/
def f20 : FD := ⟨2, 5, (.cons (.ite (.nt (.call 18 (.cons (.var 0) (.cons (.var 1) .nil)))) (.cons (.raise 0 .nil) .nil) .nil) (.cons (.for (.var 2) (.rng2 (.int 1) (.bop .add (.bi .len (.cons (.var 0) .nil)) (.int 1))) (.cons (.for (.var 3) (.comb (.bi .len (.cons (.var 0) .nil)) (.var 2)) (.cons (.ite (.call 18 (.cons (.lst (.comp [4] (.var 4) (.seq (.var 3)) .nil (.ix (.var 0) (.var 4)))) (.cons (.var 1) .nil))) (.cons (.ret (.var 3)) .nil) .nil) .nil)) .nil)) (.cons (.raise 0 .nil) .nil)))⟩
/-- too_little (watchers, wait, late, place, lag) -/
def f21 : FD := ⟨2, 5, (.cons (.asgL 2 (.comp [3, 4] (.tup (.cons (.var 3) (.cons (.var 4) .nil))) (.enum (.call 15 (.cons (.var 0) .nil))) (.cons (.cmp .gt (.var 4) (.var 1)) .nil) (.var 3)) false) (.cons (.ite (.cmp .eq (.var 2) (.lst (.disp .nil))) (.cons (.raise 0 .nil) .nil) .nil) (.cons (.ret (.tup (.cons (.bop .add (.ix (.var 2) (.int 0)) (.int 1)) (.cons (.call 13 (.cons (.var 0) (.cons (.bop .add (.ix (.var 2) (.int 0)) (.int 1)) .nil))) .nil)))) .nil)))⟩
/-- is_too_little (watchers, wait, thing, own) -/
def f22 : FD := ⟨3, 4, (.cons (.ite (.bor (.cons (.cmp .eq (.bi .len (.cons (.var 0) .nil)) (.int 0)) (.cons (.nt (.call 2 (.cons (.var 2) (.cons (.int 2) .nil)))) (.cons (.nt (.call 0 (.cons (.ix (.var 2) (.int 0)) .nil))) (.cons (.cmp .lt (.ix (.var 2) (.int 0)) (.int 1)) .nil))))) (.cons (.ret (.bl false)) .nil) .nil) (.cons (.ite (.bor (.cons (.nt (.call 2 (.cons (.ix (.var 2) (.int 1)) (.cons (.bi .len (.cons (.var 0) .nil)) .nil)))) (.cons (.nt (.bi .all (.cons (.lst (.comp [3] (.var 3) (.seq (.ix (.var 2) (.int 1))) .nil (.call 0 (.cons (.var 3) .nil)))) .nil))) .nil))) (.cons (.ret (.bl false)) .nil) .nil) (.cons (.ret (.band (.cons (.cmp .eq (.ix (.var 2) (.int 1)) (.call 13 (.cons (.var 0) (.cons (.ix (.var 2) (.int 0)) .nil)))) (.cons (.cmp .gt (.bi .min (.cons (.ix (.var 2) (.int 1)) .nil)) (.bop .add (.ix (.var 2) (.int 0)) (.var 1))) .nil)))) .nil)))⟩
/-- ledger_behind (net, times, elder, newest, moment, watchers, lates, sealed, found, when, own, late) -/
def f23 : FD := ⟨7, 12, (.cons (.asg (.var 7) (.tup (.cons (.call 1 (.cons (.var 2) .nil)) (.cons (.call 1 (.cons (.var 3) .nil)) .nil)))) (.cons (.asg (.var 8) (.call 10 (.cons (.var 0) (.cons (.call 5 (.cons (.var 0) .nil)) (.cons (.var 1) (.cons (.var 4) (.cons (.tup (.cons (.tup (.cons (.str [99, 108, 111, 115, 101]) (.cons (.var 2) .nil))) .nil)) (.cons (.var 7) .nil)))))))) (.cons (.for (.var 9) (.seq (.lst (.sorted (.lst (.comp [10, 11] (.tup (.cons (.var 10) (.cons (.var 11) .nil))) (.zip (.var 5) (.var 6)) .nil (.bop .add (.call 12 (.cons (.var 10) (.cons (.var 4) .nil))) (.var 11))))))) (.cons (.asg (.var 8) (.call 10 (.cons (.var 0) (.cons (.var 8) (.cons (.var 1) (.cons (.var 9) (.cons (.tup (.cons (.tup (.cons (.str [99, 108, 111, 115, 101]) (.cons (.var 3) .nil))) .nil)) (.cons (.var 7) .nil)))))))) .nil)) (.cons (.ret (.var 8)) .nil))))⟩
/-- _law_same (_law_got, _law_goal, _law_mine_so, _law_own) -/
def f24 : FD := ⟨2, 4, (.cons (.ite (.isi2 (.var 1) .list .tuple) (.cons (.ite (.bor (.cons (.cmp .ne (.isi (.var 0) .list) (.isi (.var 1) .list)) (.cons (.cmp .ne (.isi (.var 0) .tuple) (.isi (.var 1) .tuple)) .nil))) (.cons (.ret (.bl false)) .nil) .nil) (.cons (.ret (.band (.cons (.cmp .eq (.bi .len (.cons (.var 0) .nil)) (.bi .len (.cons (.var 1) .nil))) (.cons (.bi .all (.cons (.lst (.comp [2, 3] (.tup (.cons (.var 2) (.cons (.var 3) .nil))) (.zip (.var 0) (.var 1)) .nil (.call 24 (.cons (.var 2) (.cons (.var 3) .nil))))) .nil)) .nil)))) .nil)) .nil) (.cons (.ite (.bor (.cons (.isN (.var 1)) (.cons (.isi2 (.var 1) .bool .str) .nil))) (.cons (.ret (.band (.cons (.cmp .eq (.var 0) (.var 1)) (.cons (.cmp .eq (.isi (.var 0) .bool) (.isi (.var 1) .bool)) (.cons (.cmp .eq (.isN (.var 0)) (.isN (.var 1))) .nil))))) .nil) .nil) (.cons (.ret (.band (.cons (.isi (.var 0) .int) (.cons (.nt (.isi (.var 0) .bool)) (.cons (.cmp .eq (.var 0) (.var 1)) .nil))))) .nil)))⟩
/-- _law_lists (_law_matter, _law_own) -/
def f25 : FD := ⟨1, 2, (.cons (.ret (.ite (.isi2 (.var 0) .list .tuple) (.lst (.comp [1] (.var 1) (.seq (.var 0)) .nil (.call 25 (.cons (.var 1) .nil)))) (.var 0))) .nil)⟩
/-- _law_caught (_law_door, _law_own, _law_wait, error) -/
def f26 : FD := ⟨3, 4, (.cons (.tryR (.cons (.ite (.cmp .eq (.var 0) (.int 0)) (.cons (.ret (.call 14 (.cons (.var 1) (.cons (.var 2) .nil)))) .nil) .nil) (.cons (.ite (.cmp .lt (.var 0) (.int 4)) (.cons (.ret (.callS [16, 17, 19] (.bop .sub (.var 0) (.int 1)) (.cons (.var 1) .nil))) .nil) .nil) (.cons (.ret (.callS [18, 20, 21] (.bop .sub (.var 0) (.int 4)) (.cons (.var 1) (.cons (.var 2) .nil)))) .nil))) (.cons 0 (some 3) (.ret (.lst (.cons (.str [99, 97, 110, 32, 110, 111, 116]) (.cons .isx .nil)))) (.cons 1 (some 3) (.ret (.lst (.cons (.str [116, 111, 111, 32, 109, 117, 99, 104]) (.cons .isx .nil)))) .nil))) .nil)⟩
/-- _law_told_right (_law_got, _law_due, _law_lone, _law_three, _law_me, _law_friend, _law_both, _law_own) -/
def f27 : FD := ⟨0, 8, (.cons (.asg (.tup (.cons (.var 4) (.cons (.var 5) (.cons (.var 6) .nil)))) (.tup (.cons (.tup (.cons (.int 6) (.cons (.int 0) (.cons (.int 2) .nil)))) (.cons (.tup (.cons (.int 4) (.cons (.int 1) (.cons (.int 3) .nil)))) (.cons (.tup (.cons (.tup (.cons (.int 6) (.cons (.int 0) (.cons (.int 2) .nil)))) (.cons (.tup (.cons (.int 4) (.cons (.int 1) (.cons (.int 3) .nil)))) .nil))) .nil))))) (.cons (.asgL 0 (.disp (.cons (.lst (.comp [7] (.var 7) (.seq (.tup (.cons (.int 1) (.cons (.int 6) (.cons (.int 7) .nil))))) .nil (.call 12 (.cons (.var 4) (.cons (.var 7) .nil))))) (.cons (.lst (.comp [7] (.var 7) (.seq (.tup (.cons (.int 1) (.cons (.int 2) (.cons (.int 5) (.cons (.int 6) .nil)))))) .nil (.call 12 (.cons (.var 5) (.cons (.var 7) .nil))))) (.cons (.callK 12 (.cons (.int 3) (.cons (.lst (.disp (.cons (.int 10) (.cons (.int 9) (.cons (.int 1) .nil))))) .nil)) [⟨[109, 111, 109, 101, 110, 116].toArray⟩, ⟨[119, 97, 116, 99, 104, 101, 114].toArray⟩] [1, 0]) .nil)))) false) (.cons (.asgL 1 (.disp (.cons (.lst (.disp (.cons (.int 6) (.cons (.int 6) (.cons (.int 12) .nil))))) (.cons (.lst (.disp (.cons (.int 1) (.cons (.int 5) (.cons (.int 5) (.cons (.int 9) .nil)))))) (.cons (.int 9) .nil)))) false) (.cons (.asgL 0 (.cat (.var 0) (.lst (.disp (.cons (.lst (.comp [7] (.var 7) (.seq (.tup (.cons (.int 1) (.cons (.int 2) (.cons (.int 6) (.cons (.int 7) .nil)))))) .nil (.call 14 (.cons (.var 6) (.cons (.var 7) .nil))))) (.cons (.callK 14 (.cons (.lst (.disp (.cons (.lst (.disp (.cons (.int 1) (.cons (.int 0) (.cons (.int 4) .nil))))) .nil))) (.cons (.int 9) .nil)) [⟨[119, 97, 116, 99, 104, 101, 114, 115].toArray⟩, ⟨[109, 111, 109, 101, 110, 116].toArray⟩] [0, 1]) .nil))))) false) (.cons (.asgL 1 (.cat (.var 1) (.lst (.disp (.cons (.lst (.disp (.cons (.int 4) (.cons (.int 8) (.cons (.int 8) (.cons (.int 12) .nil)))))) (.cons (.int 13) .nil))))) false) (.cons (.asgL 2 (.disp (.cons (.tup (.cons (.var 4) .nil)) (.cons (.tup (.cons (.var 5) .nil)) (.cons (.var 6) (.cons (.tup (.cons (.tup (.cons (.int 1) (.cons (.int 0) (.cons (.int 1) .nil)))) .nil)) (.cons (.tup (.cons (.tup (.cons (.int 2) (.cons (.int 1) (.cons (.int 10) .nil)))) (.cons (.tup (.cons (.int 3) (.cons (.int 2) (.cons (.int 1) .nil)))) .nil))) (.cons (.tup (.cons (.tup (.cons (.int 10) (.cons (.int 3) (.cons (.int 10) .nil)))) .nil)) .nil))))))) false) (.cons (.asgL 0 (.cat (.var 0) (.lst (.disp (.cons (.lst (.comp [7] (.var 7) (.seq (.var 2)) .nil (.call 16 (.cons (.var 7) .nil)))) (.cons (.lst (.comp [7] (.var 7) (.seq (.var 2)) .nil (.call 17 (.cons (.call 25 (.cons (.var 7) .nil)) .nil)))) .nil))))) false) (.cons (.asgL 1 (.cat (.var 1) (.lst (.disp (.cons (.lst (.disp (.cons (.int 7) (.cons (.int 6) (.cons (.int 6) (.cons (.int 1) (.cons (.int 3) (.cons (.int 19) .nil)))))))) (.cons (.lst (.disp (.cons (.int 1) (.cons (.int 2) (.cons (.int 2) (.cons (.int 1) (.cons (.int 3) (.cons (.int 4) .nil)))))))) .nil))))) false) (.cons (.asg (.var 3) (.tup (.cons (.var 4) (.cons (.var 5) (.cons (.tup (.cons (.int 12) (.cons (.int 2) (.cons (.int 1) .nil)))) .nil))))) (.cons (.asgL 0 (.cat (.var 0) (.lst (.disp (.cons (.lst (.comp [7] (.var 7) (.seq (.tup (.cons (.int 5) (.cons (.int 6) (.cons (.int 7) .nil))))) .nil (.call 18 (.cons (.var 6) (.cons (.var 7) .nil))))) (.cons (.call 18 (.cons (.lst (.disp .nil)) (.cons (.int 40) .nil))) (.cons (.call 19 (.cons (.var 6) .nil)) (.cons (.call 19 (.cons (.tup (.cons (.var 4) .nil)) .nil)) (.cons (.call 19 (.cons (.var 3) .nil)) (.cons (.call 19 (.cons (.tup (.cons (.var 4) (.cons (.var 4) .nil))) .nil)) .nil))))))))) false) (.cons (.asgL 1 (.cat (.var 1) (.lst (.disp (.cons (.lst (.disp (.cons (.bl false) (.cons (.bl true) (.cons (.bl true) .nil))))) (.cons (.bl false) (.cons (.tup (.cons (.int 0) .nil)) (.cons (.tup .nil) (.cons (.tup .nil) (.cons (.tup (.cons (.int 0) (.cons (.int 1) .nil))) .nil))))))))) false) (.cons (.asgL 0 (.cat (.var 0) (.lst (.disp (.cons (.call 20 (.cons (.var 6) (.cons (.int 7) .nil))) (.cons (.call 20 (.cons (.call 25 (.cons (.var 6) .nil)) (.cons (.int 6) .nil))) (.cons (.call 20 (.cons (.tup (.cons (.var 4) (.cons (.var 4) (.cons (.var 5) .nil)))) (.cons (.int 6) .nil))) (.cons (.call 20 (.cons (.var 3) (.cons (.int 5) .nil))) (.cons (.callK 20 (.cons (.int 30) (.cons (.var 6) .nil)) [⟨[119, 97, 105, 116].toArray⟩, ⟨[119, 97, 116, 99, 104, 101, 114, 115].toArray⟩] [1, 0]) .nil)))))))) false) (.cons (.asgL 1 (.cat (.var 1) (.lst (.disp (.cons (.tup (.cons (.int 0) .nil)) (.cons (.tup (.cons (.int 1) .nil)) (.cons (.tup (.cons (.int 2) .nil)) (.cons (.tup (.cons (.int 0) (.cons (.int 1) (.cons (.int 2) .nil)))) (.cons (.tup (.cons (.int 0) .nil)) .nil)))))))) false) (.cons (.asgL 0 (.cat (.var 0) (.lst (.disp (.cons (.call 21 (.cons (.var 6) (.cons (.int 5) .nil))) (.cons (.call 21 (.cons (.call 25 (.cons (.var 6) .nil)) (.cons (.int 0) .nil))) (.cons (.call 21 (.cons (.tup (.cons (.var 4) .nil)) (.cons (.int 3) .nil))) (.cons (.callK 21 (.cons (.int 18) (.cons (.tup (.cons (.tup (.cons (.int 10) (.cons (.int 3) (.cons (.int 10) .nil)))) .nil)) .nil)) [⟨[119, 97, 105, 116].toArray⟩, ⟨[119, 97, 116, 99, 104, 101, 114, 115].toArray⟩] [1, 0]) .nil))))))) false) (.cons (.ret (.call 24 (.cons (.var 0) (.cons (.lst (.cat (.var 1) (.lst (.disp (.cons (.tup (.cons (.int 2) (.cons (.tup (.cons (.int 8) (.cons (.int 8) .nil))) .nil))) (.cons (.tup (.cons (.int 1) (.cons (.tup (.cons (.int 8) (.cons (.int 4) .nil))) .nil))) (.cons (.tup (.cons (.int 1) (.cons (.tup (.cons (.int 8) .nil)) .nil))) (.cons (.tup (.cons (.int 4) (.cons (.tup (.cons (.int 23) .nil)) .nil))) .nil)))))))) .nil)))) .nil)))))))))))))))⟩
/-- _law_judged_right (_law_both, _law_rows, _law_got, _law_due, _law_things, _law_own) -/
def f28 : FD := ⟨0, 6, (.cons (.asg (.var 0) (.tup (.cons (.tup (.cons (.int 6) (.cons (.int 0) (.cons (.int 2) .nil)))) (.cons (.tup (.cons (.int 4) (.cons (.int 1) (.cons (.int 3) .nil)))) .nil)))) (.cons (.asgL 1 (.disp (.cons (.tup (.cons (.int 6) (.cons (.int 0) (.cons (.int 2) .nil)))) (.cons (.tup (.cons (.int 1) (.cons (.int 0) (.cons (.int 1) .nil)))) (.cons (.tup (.cons (.int 4) (.cons (.int 4) (.cons (.int 3) .nil)))) (.cons (.tup (.cons (.int 0) (.cons (.int 0) (.cons (.int 1) .nil)))) (.cons (.tup (.cons (.int 4) (.cons (.neg (.int 1)) (.cons (.int 3) .nil)))) (.cons (.tup (.cons (.int 4) (.cons (.int 1) (.cons (.int 0) .nil)))) (.cons (.tup (.cons (.int 4) (.cons (.int 1) .nil))) (.cons (.lst (.disp (.cons (.int 4) (.cons (.int 1) (.cons (.int 3) .nil))))) (.cons (.tup (.cons (.bl true) (.cons (.int 0) (.cons (.int 1) .nil)))) (.cons (.tup (.cons (.int 4) (.cons (.bl false) (.cons (.int 1) .nil)))) (.cons .non (.cons (.tup (.cons (.int 40) (.cons (.int 39) (.cons (.int 99) .nil)))) .nil))))))))))))) false) (.cons (.asgL 2 (.disp (.cons (.lst (.comp [5] (.var 5) (.seq (.var 1)) .nil (.call 11 (.cons (.var 5) .nil)))) .nil)) true) (.cons (.asgL 3 (.disp (.cons (.lst (.cat (.lst (.cat (.lst (.disp (.cons (.bl true) (.cons (.bl true) .nil)))) (.lst (.rep (.disp (.cons (.bl false) .nil)) (.int 9))))) (.lst (.disp (.cons (.bl true) .nil))))) .nil)) false) (.cons (.asgL 4 (.disp (.cons (.tup (.cons (.int 2) (.cons (.tup (.cons (.int 8) (.cons (.int 8) .nil))) .nil))) (.cons (.tup (.cons (.int 14) (.cons (.tup (.cons (.int 20) (.cons (.int 20) .nil))) .nil))) (.cons (.tup (.cons (.int 8) (.cons (.tup (.cons (.int 14) (.cons (.int 12) .nil))) .nil))) (.cons (.tup (.cons (.int 1) (.cons (.tup (.cons (.int 8) (.cons (.int 4) .nil))) .nil))) (.cons (.tup (.cons (.int 2) (.cons (.tup (.cons (.int 8) .nil)) .nil))) (.cons (.tup (.cons (.int 2) (.cons (.tup (.cons (.int 8) (.cons (.int 9) .nil))) .nil))) (.cons (.lst (.disp (.cons (.int 2) (.cons (.tup (.cons (.int 8) (.cons (.int 8) .nil))) .nil)))) (.cons (.tup (.cons (.int 2) (.cons (.lst (.disp (.cons (.int 8) (.cons (.int 8) .nil)))) .nil))) (.cons (.tup (.cons (.int 0) (.cons (.tup (.cons (.int 2) (.cons (.int 4) .nil))) .nil))) (.cons (.tup (.cons (.int 2) (.cons (.tup (.cons (.int 8) (.cons (.int 8) .nil))) (.cons (.int 1) .nil)))) (.cons (.tup (.cons (.bl true) (.cons (.tup (.cons (.int 8) (.cons (.int 4) .nil))) .nil))) (.cons .non (.cons (.tup .nil) .nil)))))))))))))) false) (.cons (.app 2 (.lst (.comp [5] (.var 5) (.seq (.var 4)) .nil (.call 22 (.cons (.var 0) (.cons (.int 5) (.cons (.var 5) .nil))))))) (.cons (.app 2 (.lst (.comp [5] (.var 5) (.seq (.var 4)) .nil (.callK 22 (.cons (.call 25 (.cons (.var 0) .nil)) (.cons (.int 3) (.cons (.var 5) .nil))) [⟨[119, 97, 116, 99, 104, 101, 114, 115].toArray⟩, ⟨[119, 97, 105, 116].toArray⟩, ⟨[116, 104, 105, 110, 103].toArray⟩] [0, 1, 2])))) (.cons (.asgL 3 (.cat (.var 3) (.lst (.disp (.cons (.lst (.cat (.lst (.disp (.cons (.bl true) (.cons (.bl true) .nil)))) (.lst (.rep (.disp (.cons (.bl false) .nil)) (.int 11))))) (.cons (.lst (.cat (.lst (.disp (.cons (.bl true) (.cons (.bl true) (.cons (.bl true) .nil))))) (.lst (.rep (.disp (.cons (.bl false) .nil)) (.int 10))))) .nil))))) false) (.cons (.asgL 2 (.cat (.var 2) (.lst (.disp (.cons (.call 22 (.cons (.tup .nil) (.cons (.int 0) (.cons (.tup (.cons (.int 1) (.cons (.tup .nil) .nil))) .nil)))) (.cons (.call 22 (.cons (.tup (.cons (.tup (.cons (.int 1) (.cons (.int 0) (.cons (.int 1) .nil)))) .nil)) (.cons (.int 0) (.cons (.tup (.cons (.int 1) (.cons (.tup (.cons (.int 2) .nil)) .nil))) .nil)))) (.cons (.call 22 (.cons (.tup (.cons (.tup (.cons (.int 1) (.cons (.int 0) (.cons (.int 1) .nil)))) .nil)) (.cons (.int 1) (.cons (.tup (.cons (.int 1) (.cons (.tup (.cons (.int 2) .nil)) .nil))) .nil)))) (.cons (.call 22 (.cons (.tup (.cons (.tup (.cons (.int 1) (.cons (.int 0) (.cons (.int 1) .nil)))) .nil)) (.cons (.int 0) (.cons (.tup (.cons (.int 1) (.cons (.tup (.cons (.bl true) .nil)) .nil))) .nil)))) .nil))))))) true) (.cons (.ret (.call 24 (.cons (.var 2) (.cons (.lst (.cat (.var 3) (.lst (.disp (.cons (.bl false) (.cons (.bl true) (.cons (.bl false) (.cons (.bl false) .nil)))))))) .nil)))) .nil))))))))))⟩
/-- _law_refused_right (_law_got, _law_due, _law_both, _law_great, _law_none, _law_much, _law_door) -/
def f29 : FD := ⟨0, 7, (.cons (.asg (.tup (.cons (.var 3) (.cons (.var 4) (.cons (.var 5) .nil)))) (.tup (.cons (.tup (.cons (.tup (.cons (.int 97) (.cons (.int 0) (.cons (.int 1) .nil)))) (.cons (.tup (.cons (.int 89) (.cons (.int 0) (.cons (.int 1) .nil)))) (.cons (.tup (.cons (.int 2) (.cons (.int 0) (.cons (.int 1) .nil)))) .nil)))) (.cons (.lst (.disp (.cons (.str [99, 97, 110, 32, 110, 111, 116]) (.cons (.bl true) .nil)))) (.cons (.lst (.disp (.cons (.str [116, 111, 111, 32, 109, 117, 99, 104]) (.cons (.bl true) .nil)))) .nil))))) (.cons (.asgL 0 (.comp [6] (.var 6) (.seq (.tup (.cons (.int 0) (.cons (.int 1) (.cons (.int 2) (.cons (.int 3) (.cons (.int 4) (.cons (.int 5) (.cons (.int 6) .nil))))))))) .nil (.call 26 (.cons (.var 6) (.cons (.tup .nil) (.cons (.int 3) .nil))))) false) (.cons (.asgL 1 (.cat (.lst (.rep (.disp (.cons (.var 4) .nil)) (.int 4))) (.lst (.disp (.cons (.bl false) (.cons (.var 4) (.cons (.var 4) .nil)))))) false) (.cons (.asgL 0 (.cat (.var 0) (.lst (.comp [6] (.var 6) (.seq (.tup (.cons (.int 0) (.cons (.int 1) (.cons (.int 2) (.cons (.int 3) (.cons (.int 4) (.cons (.int 5) (.cons (.int 6) .nil))))))))) .nil (.call 26 (.cons (.var 6) (.cons (.var 3) (.cons (.int 3) .nil))))))) false) (.cons (.asgL 1 (.cat (.var 1) (.lst (.disp (.cons (.int 5) (.cons (.var 5) (.cons (.var 5) (.cons (.var 5) (.cons (.var 5) (.cons (.var 5) (.cons (.var 5) .nil)))))))))) false) (.cons (.asg (.var 2) (.tup (.cons (.tup (.cons (.int 6) (.cons (.int 0) (.cons (.int 2) .nil)))) (.cons (.tup (.cons (.int 4) (.cons (.int 1) (.cons (.int 3) .nil)))) .nil)))) (.cons (.asgL 0 (.cat (.var 0) (.lst (.disp (.cons (.call 26 (.cons (.int 5) (.cons (.var 2) (.cons (.int 5) .nil)))) (.cons (.call 26 (.cons (.int 6) (.cons (.var 2) (.cons (.int 6) .nil)))) (.cons (.call 26 (.cons (.int 6) (.cons (.tup (.cons (.tup (.cons (.int 10) (.cons (.int 0) (.cons (.int 1) .nil)))) (.cons (.tup (.cons (.int 9) (.cons (.int 1) (.cons (.int 1) .nil)))) .nil))) (.cons (.int 40) .nil)))) (.cons (.call 16 (.cons (.tup (.cons (.tup (.cons (.int 100) (.cons (.int 0) (.cons (.int 1) .nil)))) (.cons (.tup (.cons (.int 50) (.cons (.int 7) (.cons (.int 1) .nil)))) .nil))) .nil)) .nil))))))) false) (.cons (.ret (.call 24 (.cons (.var 0) (.cons (.lst (.cat (.var 1) (.lst (.disp (.cons (.var 4) (.cons (.var 4) (.cons (.var 4) (.cons (.int 50) .nil)))))))) .nil)))) .nil))))))))⟩
/-- _law_ledgers_right (_law_got, _law_due, _law_far, _law_both, _law_net, _law_first, _law_elder, _law_newest, _law_own) -/
def f30 : FD := ⟨0, 9, (.cons (.asg (.tup (.cons (.var 3) (.cons (.var 4) .nil))) (.tup (.cons (.tup (.cons (.tup (.cons (.int 6) (.cons (.int 0) (.cons (.int 2) .nil)))) (.cons (.tup (.cons (.int 4) (.cons (.int 1) (.cons (.int 3) .nil)))) .nil))) (.cons (.tup (.cons (.tup (.cons (.int 0) (.cons (.int 1) (.cons (.int 5) (.cons (.int 5) .nil))))) (.cons (.tup (.cons (.int 1) (.cons (.int 2) (.cons (.int 3) (.cons (.int 0) .nil))))) .nil))) .nil)))) (.cons (.asg (.tup (.cons (.var 5) (.cons (.var 6) (.cons (.var 7) .nil)))) (.tup (.cons (.tup (.cons (.int 0) (.cons (.int 0) (.cons (.tup (.cons (.int 5) (.cons (.int 5) .nil))) (.cons (.tup .nil) .nil))))) (.cons (.tup (.cons (.int 0) (.cons (.int 1) (.cons (.tup (.cons (.int 9) (.cons (.int 1) .nil))) (.cons (.tup .nil) .nil))))) (.cons (.tup (.cons (.int 0) (.cons (.int 2) (.cons (.tup (.cons (.int 1) (.cons (.int 9) .nil))) (.cons (.tup .nil) .nil))))) .nil))))) (.cons (.asgL 0 (.comp [8] (.var 8) (.seq (.tup (.cons (.int 5) (.cons (.int 6) .nil)))) .nil (.call 23 (.cons (.var 4) (.cons (.tup (.cons (.int 2) (.cons (.int 6) (.cons (.var 8) .nil)))) (.cons (.var 6) (.cons (.var 7) (.cons (.int 2) (.cons (.var 3) (.cons (.tup (.cons (.int 2) (.cons (.int 3) .nil))) .nil))))))))) false) (.cons (.asgL 1 (.disp (.cons (.tup (.cons (.tup (.cons (.var 6) (.cons (.int 2) (.cons (.tup .nil) .nil)))) (.cons .non .nil))) (.cons (.tup (.cons (.tup (.cons (.var 7) (.cons (.int 2) (.cons (.tup .nil) .nil)))) (.cons .non .nil))) .nil))) false) (.cons (.asgL 0 (.cat (.var 0) (.lst (.disp (.cons (.call 23 (.cons (.call 25 (.cons (.var 4) .nil)) (.cons (.lst (.disp (.cons (.int 2) (.cons (.int 6) (.cons (.int 5) .nil))))) (.cons (.var 5) (.cons (.call 25 (.cons (.var 7) .nil)) (.cons (.int 2) (.cons (.var 3) (.cons (.tup (.cons (.int 2) (.cons (.int 2) .nil))) .nil)))))))) (.cons (.call 23 (.cons (.var 4) (.cons (.tup (.cons (.int 2) (.cons (.int 6) (.cons (.int 4) .nil)))) (.cons (.var 6) (.cons (.var 7) (.cons (.int 2) (.cons (.var 3) (.cons (.tup (.cons (.int 1) (.cons (.int 3) .nil))) .nil)))))))) .nil))))) false) (.cons (.asgL 1 (.cat (.var 1) (.lst (.disp (.cons (.tup (.cons (.tup (.cons (.var 7) (.cons (.int 2) (.cons (.tup .nil) .nil)))) (.cons .non .nil))) (.cons (.tup (.cons (.tup (.cons (.var 6) (.cons (.int 2) (.cons (.tup .nil) .nil)))) (.cons .non .nil))) .nil))))) false) (.cons (.asg (.var 2) (.callK 23 (.cons (.lst (.disp (.cons (.int 1) .nil))) (.cons (.lst (.disp (.cons (.lst (.disp (.cons (.int 6) (.cons (.int 0) (.cons (.int 2) .nil))))) .nil))) (.cons (.int 7) (.cons (.tup (.cons (.int 1) (.cons (.int 3) (.cons (.tup (.cons (.int 2) (.cons (.int 1) .nil))) (.cons (.tup .nil) .nil))))) (.cons (.tup (.cons (.int 1) (.cons (.int 0) (.cons (.tup (.cons (.int 3) (.cons (.int 0) .nil))) (.cons (.tup .nil) .nil))))) (.cons (.tup (.cons (.int 2) (.cons (.int 6) (.cons (.int 9) .nil)))) (.cons (.var 4) .nil))))))) [⟨[108, 97, 116, 101, 115].toArray⟩, ⟨[119, 97, 116, 99, 104, 101, 114, 115].toArray⟩, ⟨[109, 111, 109, 101, 110, 116].toArray⟩, ⟨[110, 101, 119, 101, 115, 116].toArray⟩, ⟨[101, 108, 100, 101, 114].toArray⟩, ⟨[116, 105, 109, 101, 115].toArray⟩, ⟨[110, 101, 116].toArray⟩] [6, 5, 4, 3, 2, 1, 0])) (.cons (.ret (.call 24 (.cons (.lst (.cat (.var 0) (.lst (.disp (.cons (.var 2) .nil))))) (.cons (.lst (.cat (.var 1) (.lst (.disp (.cons (.tup (.cons .non (.cons (.tup (.cons (.tup (.cons (.int 1) (.cons (.int 3) (.cons (.tup (.cons (.int 2) (.cons (.int 1) .nil))) (.cons (.tup .nil) .nil))))) (.cons (.int 7) (.cons (.tup .nil) .nil)))) .nil))) .nil))))) .nil)))) .nil))))))))⟩
/-- law (_law_script) -/
def f31 : FD := ⟨1, 1, (.cons (.ret (.band (.cons (.cmp .ge (.bi .len (.cons (.var 0) .nil)) (.int 0)) (.cons (.call 27 .nil) (.cons (.call 28 .nil) (.cons (.call 29 .nil) (.cons (.call 30 .nil) .nil))))))) .nil)⟩
def ft : List FD := [f0, f1, f2, f3, f4, f5, f6, f7, f8, f9, f10, f11, f12, f13, f14, f15, f16, f17, f18, f19, f20, f21, f22, f23, f24, f25, f26, f27, f28, f29, f30, f31]
def cs : List PySem.PyData := [.int 10000]
def law : Nat := 31
end K48

namespace K48
open L2 PySem Sd PySem.Spec PyProof.Rows
def top (i : Nat) : Stmt := PySem.Challenge.pw_suredue_k48_watchers_by_hand_and_refused.main.body.getD i (.Pass ⟨0, 0, 0, 0⟩)
def d0 : DefT := ⟨"is_number", ["thing"], ["thing"], defArgs (top 7), defBody (top 7), defScope (top 7)⟩
def d1 : DefT := ⟨"tuple_of", ["thing", "part"], ["thing"], defArgs (top 8), defBody (top 8), defScope (top 8)⟩
def d2 : DefT := ⟨"is_tuple_of", ["thing", "many"], ["thing", "many"], defArgs (top 9), defBody (top 9), defScope (top 9)⟩
def d3 : DefT := ⟨"sure_channel", ["net", "channel"], ["net", "channel"], defArgs (top 11), defBody (top 11), defScope (top 11)⟩
def d4 : DefT := ⟨"first_sheet", ["net", "channel"], ["net", "channel"], defArgs (top 12), defBody (top 12), defScope (top 12)⟩
def d5 : DefT := ⟨"begun_ledger", ["net"], ["net"], defArgs (top 14), defBody (top 14), defScope (top 14)⟩
def d6 : DefT := ⟨"_closes", ["net", "ledger", "times", "moment", "sheet", "sealed", "place"], ["net", "ledger", "times", "moment", "sheet", "sealed"], defArgs (top 15), defBody (top 15), defScope (top 15)⟩
def d7 : DefT := ⟨"_shows", ["ledger", "channel", "secret", "place", "own", "_"], ["ledger", "channel", "secret"], defArgs (top 16), defBody (top 16), defScope (top 16)⟩
def d8 : DefT := ⟨"_does", ["net", "ledger", "times", "moment", "deed", "sealed"], ["net", "ledger", "times", "moment", "deed", "sealed"], defArgs (top 17), defBody (top 17), defScope (top 17)⟩
def d9 : DefT := ⟨"_with_deed", ["ledger", "moment", "deed", "channel", "place", "sheet", "since", "shown"], ["ledger", "moment", "deed"], defArgs (top 18), defBody (top 18), defScope (top 18)⟩
def d10 : DefT := ⟨"comes", ["net", "ledger", "times", "moment", "row", "sealed", "deed", "own", "found", "seals"], ["net", "ledger", "times", "moment", "row", "sealed"], defArgs (top 19), defBody (top 19), defScope (top 19)⟩
def d11 : DefT := ⟨"is_watcher", ["thing", "own"], ["thing"], defArgs (top 22), defBody (top 22), defScope (top 22)⟩
def d12 : DefT := ⟨"next_look", ["watcher", "moment", "step", "first", "_"], ["watcher", "moment"], defArgs (top 23), defBody (top 23), defScope (top 23)⟩
def d13 : DefT := ⟨"lasts_of", ["watchers", "moment", "own"], ["watchers", "moment"], defArgs (top 24), defBody (top 24), defScope (top 24)⟩
def d14 : DefT := ⟨"answered_at", ["watchers", "moment"], ["watchers", "moment"], defArgs (top 25), defBody (top 25), defScope (top 25)⟩
def d15 : DefT := ⟨"lags", ["watchers", "many", "own", "moment"], ["watchers"], defArgs (top 26), defBody (top 26), defScope (top 26)⟩
def d16 : DefT := ⟨"wait_wanted", ["watchers"], ["watchers"], defArgs (top 27), defBody (top 27), defScope (top 27)⟩
def d17 : DefT := ⟨"worst_moment", ["watchers", "found"], ["watchers"], defArgs (top 28), defBody (top 28), defScope (top 28)⟩
def d18 : DefT := ⟨"is_enough", ["watchers", "wait"], ["watchers", "wait"], defArgs (top 29), defBody (top 29), defScope (top 29)⟩
def d19 : DefT := ⟨"needless", ["watchers", "wait", "own", "place"], ["watchers"], defArgs (top 30), defBody (top 30), defScope (top 30)⟩
def d20 : DefT := ⟨"fewest", ["watchers", "wait", "many", "places", "place"], ["watchers", "wait"], defArgs (top 31), defBody (top 31), defScope (top 31)⟩
def d21 : DefT := ⟨"too_little", ["watchers", "wait", "late", "place", "lag"], ["watchers", "wait"], defArgs (top 32), defBody (top 32), defScope (top 32)⟩
def d22 : DefT := ⟨"is_too_little", ["watchers", "wait", "thing", "own"], ["watchers", "wait", "thing"], defArgs (top 33), defBody (top 33), defScope (top 33)⟩
def d23 : DefT := ⟨"ledger_behind", ["net", "times", "elder", "newest", "moment", "watchers", "lates", "sealed", "found", "when", "own", "late"], ["net", "times", "elder", "newest", "moment", "watchers", "lates"], defArgs (top 34), defBody (top 34), defScope (top 34)⟩
def d24 : DefT := ⟨"_law_same", ["_law_got", "_law_goal", "_law_mine_so", "_law_own"], ["_law_got", "_law_goal"], defArgs (top 36), defBody (top 36), defScope (top 36)⟩
def d25 : DefT := ⟨"_law_lists", ["_law_matter", "_law_own"], ["_law_matter"], defArgs (top 37), defBody (top 37), defScope (top 37)⟩
def d26 : DefT := ⟨"_law_caught", ["_law_door", "_law_own", "_law_wait", "error"], ["_law_door", "_law_own", "_law_wait"], defArgs (top 38), defBody (top 38), defScope (top 38)⟩
def d27 : DefT := ⟨"_law_told_right", ["_law_got", "_law_due", "_law_lone", "_law_three", "_law_me", "_law_friend", "_law_both", "_law_own"], [], defArgs (top 39), defBody (top 39), defScope (top 39)⟩
def d28 : DefT := ⟨"_law_judged_right", ["_law_both", "_law_rows", "_law_got", "_law_due", "_law_things", "_law_own"], [], defArgs (top 40), defBody (top 40), defScope (top 40)⟩
def d29 : DefT := ⟨"_law_refused_right", ["_law_got", "_law_due", "_law_both", "_law_great", "_law_none", "_law_much", "_law_door"], [], defArgs (top 41), defBody (top 41), defScope (top 41)⟩
def d30 : DefT := ⟨"_law_ledgers_right", ["_law_got", "_law_due", "_law_far", "_law_both", "_law_net", "_law_first", "_law_elder", "_law_newest", "_law_own"], [], defArgs (top 42), defBody (top 42), defScope (top 42)⟩
def d31 : DefT := ⟨"law", ["_law_script"], ["_law_script"], defArgs (top 43), defBody (top 43), defScope (top 43)⟩
def ds : List DefT := [d0, d1, d2, d3, d4, d5, d6, d7, d8, d9, d10, d11, d12, d13, d14, d15, d16, d17, d18, d19, d20, d21, d22, d23, d24, d25, d26, d27, d28, d29, d30, d31]
def C0 : CK := { N := [], FN := ["is_number", "tuple_of", "is_tuple_of", "sure_channel", "first_sheet", "begun_ledger", "_closes", "_shows", "_does", "_with_deed", "comes", "is_watcher", "next_look", "lasts_of", "answered_at", "lags", "wait_wanted", "worst_moment", "is_enough", "needless", "fewest", "too_little", "is_too_little", "ledger_behind", "_law_same", "_law_lists", "_law_caught", "_law_told_right", "_law_judged_right", "_law_refused_right", "_law_ledgers_right", "law"], CN := ["ROUND"], EN := ["CanNot", "TooMuch"], EB := ["ValueError", "ValueError"], KW := [(12, ["moment", "watcher"], [1, 0]), (14, ["watchers", "moment"], [0, 1]), (20, ["wait", "watchers"], [1, 0]), (21, ["wait", "watchers"], [1, 0]), (22, ["watchers", "wait", "thing"], [0, 1, 2]), (23, ["lates", "watchers", "moment", "newest", "elder", "times", "net"], [6, 5, 4, 3, 2, 1, 0])], lcm := true, comb := true }
theorem b0 {K : PySem.W.Frag} {f : Addr} {fd : FuncData} (F : FunD K d0.id d0.id d0.params d0.body d0.scope [] [] f fd) : L2.Binds K fd d0.ps [] := F.bindsN fun _ _ _ _ _ _ us hl => match us, hl with | [_], _ => rfl
theorem b1 {K : PySem.W.Frag} {f : Addr} {fd : FuncData} (F : FunD K d1.id d1.id d1.params d1.body d1.scope [] [] f fd) : L2.Binds K fd d1.ps [] := F.bindsN fun _ _ _ _ _ _ us hl => match us, hl with | [_], _ => rfl
theorem b2 {K : PySem.W.Frag} {f : Addr} {fd : FuncData} (F : FunD K d2.id d2.id d2.params d2.body d2.scope [] [] f fd) : L2.Binds K fd d2.ps [] := F.bindsN fun _ _ _ _ _ _ us hl => match us, hl with | [_, _], _ => rfl
theorem b3 {K : PySem.W.Frag} {f : Addr} {fd : FuncData} (F : FunD K d3.id d3.id d3.params d3.body d3.scope [] [] f fd) : L2.Binds K fd d3.ps [] := F.bindsN fun _ _ _ _ _ _ us hl => match us, hl with | [_, _], _ => rfl
theorem b4 {K : PySem.W.Frag} {f : Addr} {fd : FuncData} (F : FunD K d4.id d4.id d4.params d4.body d4.scope [] [] f fd) : L2.Binds K fd d4.ps [] := F.bindsN fun _ _ _ _ _ _ us hl => match us, hl with | [_, _], _ => rfl
theorem b5 {K : PySem.W.Frag} {f : Addr} {fd : FuncData} (F : FunD K d5.id d5.id d5.params d5.body d5.scope [] [] f fd) : L2.Binds K fd d5.ps [] := F.bindsN fun _ _ _ _ _ _ us hl => match us, hl with | [_], _ => rfl
theorem b6 {K : PySem.W.Frag} {f : Addr} {fd : FuncData} (F : FunD K d6.id d6.id d6.params d6.body d6.scope [] [] f fd) : L2.Binds K fd d6.ps [] := F.bindsN fun _ _ _ _ _ _ us hl => match us, hl with | [_, _, _, _, _, _], _ => rfl
theorem b7 {K : PySem.W.Frag} {f : Addr} {fd : FuncData} (F : FunD K d7.id d7.id d7.params d7.body d7.scope [] [] f fd) : L2.Binds K fd d7.ps [] := F.bindsN fun _ _ _ _ _ _ us hl => match us, hl with | [_, _, _], _ => rfl
theorem b8 {K : PySem.W.Frag} {f : Addr} {fd : FuncData} (F : FunD K d8.id d8.id d8.params d8.body d8.scope [] [] f fd) : L2.Binds K fd d8.ps [] := F.bindsN fun _ _ _ _ _ _ us hl => match us, hl with | [_, _, _, _, _, _], _ => rfl
theorem b9 {K : PySem.W.Frag} {f : Addr} {fd : FuncData} (F : FunD K d9.id d9.id d9.params d9.body d9.scope [] [] f fd) : L2.Binds K fd d9.ps [] := F.bindsN fun _ _ _ _ _ _ us hl => match us, hl with | [_, _, _], _ => rfl
theorem b10 {K : PySem.W.Frag} {f : Addr} {fd : FuncData} (F : FunD K d10.id d10.id d10.params d10.body d10.scope [] [] f fd) : L2.Binds K fd d10.ps [] := F.bindsN fun _ _ _ _ _ _ us hl => match us, hl with | [_, _, _, _, _, _], _ => rfl
theorem b11 {K : PySem.W.Frag} {f : Addr} {fd : FuncData} (F : FunD K d11.id d11.id d11.params d11.body d11.scope [] [] f fd) : L2.Binds K fd d11.ps [] := F.bindsN fun _ _ _ _ _ _ us hl => match us, hl with | [_], _ => rfl
theorem b12 {K : PySem.W.Frag} {f : Addr} {fd : FuncData} (F : FunD K d12.id d12.id d12.params d12.body d12.scope [] [] f fd) : L2.Binds K fd d12.ps [] := F.bindsN fun _ _ _ _ _ _ us hl => match us, hl with | [_, _], _ => rfl
theorem b12_0 {K : PySem.W.Frag} {f : Addr} {fd : FuncData} (F : FunD K d12.id d12.id d12.params d12.body d12.scope [] [] f fd) : KBinds K fd d12.ps ["moment", "watcher"] (gK [1, 0]) (gK [1, 0]) := kb_of F (fun z => nomatch z) fun _ _ _ _ _ _ ws hl => match ws, hl with | _ :: _ :: _, _ => rfl | [], hl => nomatch hl | [_], hl => nomatch hl
theorem b13 {K : PySem.W.Frag} {f : Addr} {fd : FuncData} (F : FunD K d13.id d13.id d13.params d13.body d13.scope [] [] f fd) : L2.Binds K fd d13.ps [] := F.bindsN fun _ _ _ _ _ _ us hl => match us, hl with | [_, _], _ => rfl
theorem b14 {K : PySem.W.Frag} {f : Addr} {fd : FuncData} (F : FunD K d14.id d14.id d14.params d14.body d14.scope [] [] f fd) : L2.Binds K fd d14.ps [] := F.bindsN fun _ _ _ _ _ _ us hl => match us, hl with | [_, _], _ => rfl
theorem b14_0 {K : PySem.W.Frag} {f : Addr} {fd : FuncData} (F : FunD K d14.id d14.id d14.params d14.body d14.scope [] [] f fd) : KBinds K fd d14.ps ["watchers", "moment"] (gK [0, 1]) (gK [0, 1]) := kb_of F (fun z => nomatch z) fun _ _ _ _ _ _ ws hl => match ws, hl with | _ :: _ :: _, _ => rfl | [], hl => nomatch hl | [_], hl => nomatch hl
theorem b15 {K : PySem.W.Frag} {f : Addr} {fd : FuncData} (F : FunD K d15.id d15.id d15.params d15.body d15.scope [] [] f fd) : L2.Binds K fd d15.ps [] := F.bindsN fun _ _ _ _ _ _ us hl => match us, hl with | [_], _ => rfl
theorem b16 {K : PySem.W.Frag} {f : Addr} {fd : FuncData} (F : FunD K d16.id d16.id d16.params d16.body d16.scope [] [] f fd) : L2.Binds K fd d16.ps [] := F.bindsN fun _ _ _ _ _ _ us hl => match us, hl with | [_], _ => rfl
theorem b17 {K : PySem.W.Frag} {f : Addr} {fd : FuncData} (F : FunD K d17.id d17.id d17.params d17.body d17.scope [] [] f fd) : L2.Binds K fd d17.ps [] := F.bindsN fun _ _ _ _ _ _ us hl => match us, hl with | [_], _ => rfl
theorem b18 {K : PySem.W.Frag} {f : Addr} {fd : FuncData} (F : FunD K d18.id d18.id d18.params d18.body d18.scope [] [] f fd) : L2.Binds K fd d18.ps [] := F.bindsN fun _ _ _ _ _ _ us hl => match us, hl with | [_, _], _ => rfl
theorem b19 {K : PySem.W.Frag} {f : Addr} {fd : FuncData} (F : FunD K d19.id d19.id d19.params d19.body d19.scope [] [] f fd) : L2.Binds K fd d19.ps [] := F.bindsN fun _ _ _ _ _ _ us hl => match us, hl with | [_], _ => rfl
theorem b20 {K : PySem.W.Frag} {f : Addr} {fd : FuncData} (F : FunD K d20.id d20.id d20.params d20.body d20.scope [] [] f fd) : L2.Binds K fd d20.ps [] := F.bindsN fun _ _ _ _ _ _ us hl => match us, hl with | [_, _], _ => rfl
theorem b20_0 {K : PySem.W.Frag} {f : Addr} {fd : FuncData} (F : FunD K d20.id d20.id d20.params d20.body d20.scope [] [] f fd) : KBinds K fd d20.ps ["wait", "watchers"] (gK [1, 0]) (gK [1, 0]) := kb_of F (fun z => nomatch z) fun _ _ _ _ _ _ ws hl => match ws, hl with | _ :: _ :: _, _ => rfl | [], hl => nomatch hl | [_], hl => nomatch hl
theorem b21 {K : PySem.W.Frag} {f : Addr} {fd : FuncData} (F : FunD K d21.id d21.id d21.params d21.body d21.scope [] [] f fd) : L2.Binds K fd d21.ps [] := F.bindsN fun _ _ _ _ _ _ us hl => match us, hl with | [_, _], _ => rfl
theorem b21_0 {K : PySem.W.Frag} {f : Addr} {fd : FuncData} (F : FunD K d21.id d21.id d21.params d21.body d21.scope [] [] f fd) : KBinds K fd d21.ps ["wait", "watchers"] (gK [1, 0]) (gK [1, 0]) := kb_of F (fun z => nomatch z) fun _ _ _ _ _ _ ws hl => match ws, hl with | _ :: _ :: _, _ => rfl | [], hl => nomatch hl | [_], hl => nomatch hl
theorem b22 {K : PySem.W.Frag} {f : Addr} {fd : FuncData} (F : FunD K d22.id d22.id d22.params d22.body d22.scope [] [] f fd) : L2.Binds K fd d22.ps [] := F.bindsN fun _ _ _ _ _ _ us hl => match us, hl with | [_, _, _], _ => rfl
theorem b22_0 {K : PySem.W.Frag} {f : Addr} {fd : FuncData} (F : FunD K d22.id d22.id d22.params d22.body d22.scope [] [] f fd) : KBinds K fd d22.ps ["watchers", "wait", "thing"] (gK [0, 1, 2]) (gK [0, 1, 2]) := kb_of F (fun z => nomatch z) fun _ _ _ _ _ _ ws hl => match ws, hl with | _ :: _ :: _ :: _, _ => rfl | [], hl => nomatch hl | [_], hl => nomatch hl | [_, _], hl => nomatch hl
theorem b23 {K : PySem.W.Frag} {f : Addr} {fd : FuncData} (F : FunD K d23.id d23.id d23.params d23.body d23.scope [] [] f fd) : L2.Binds K fd d23.ps [] := F.bindsN fun _ _ _ _ _ _ us hl => match us, hl with | [_, _, _, _, _, _, _], _ => rfl
theorem b23_0 {K : PySem.W.Frag} {f : Addr} {fd : FuncData} (F : FunD K d23.id d23.id d23.params d23.body d23.scope [] [] f fd) : KBinds K fd d23.ps ["lates", "watchers", "moment", "newest", "elder", "times", "net"] (gK [6, 5, 4, 3, 2, 1, 0]) (gK [6, 5, 4, 3, 2, 1, 0]) := kb_of F (fun z => nomatch z) fun _ _ _ _ _ _ ws hl => match ws, hl with | _ :: _ :: _ :: _ :: _ :: _ :: _ :: _, _ => rfl | [], hl => nomatch hl | [_], hl => nomatch hl | [_, _], hl => nomatch hl | [_, _, _], hl => nomatch hl | [_, _, _, _], hl => nomatch hl | [_, _, _, _, _], hl => nomatch hl | [_, _, _, _, _, _], hl => nomatch hl
theorem b24 {K : PySem.W.Frag} {f : Addr} {fd : FuncData} (F : FunD K d24.id d24.id d24.params d24.body d24.scope [] [] f fd) : L2.Binds K fd d24.ps [] := F.bindsN fun _ _ _ _ _ _ us hl => match us, hl with | [_, _], _ => rfl
theorem b25 {K : PySem.W.Frag} {f : Addr} {fd : FuncData} (F : FunD K d25.id d25.id d25.params d25.body d25.scope [] [] f fd) : L2.Binds K fd d25.ps [] := F.bindsN fun _ _ _ _ _ _ us hl => match us, hl with | [_], _ => rfl
theorem b26 {K : PySem.W.Frag} {f : Addr} {fd : FuncData} (F : FunD K d26.id d26.id d26.params d26.body d26.scope [] [] f fd) : L2.Binds K fd d26.ps [] := F.bindsN fun _ _ _ _ _ _ us hl => match us, hl with | [_, _, _], _ => rfl
theorem b27 {K : PySem.W.Frag} {f : Addr} {fd : FuncData} (F : FunD K d27.id d27.id d27.params d27.body d27.scope [] [] f fd) : L2.Binds K fd d27.ps [] := F.bindsN fun _ _ _ _ _ _ us hl => match us, hl with | [], _ => rfl
theorem b28 {K : PySem.W.Frag} {f : Addr} {fd : FuncData} (F : FunD K d28.id d28.id d28.params d28.body d28.scope [] [] f fd) : L2.Binds K fd d28.ps [] := F.bindsN fun _ _ _ _ _ _ us hl => match us, hl with | [], _ => rfl
theorem b29 {K : PySem.W.Frag} {f : Addr} {fd : FuncData} (F : FunD K d29.id d29.id d29.params d29.body d29.scope [] [] f fd) : L2.Binds K fd d29.ps [] := F.bindsN fun _ _ _ _ _ _ us hl => match us, hl with | [], _ => rfl
theorem b30 {K : PySem.W.Frag} {f : Addr} {fd : FuncData} (F : FunD K d30.id d30.id d30.params d30.body d30.scope [] [] f fd) : L2.Binds K fd d30.ps [] := F.bindsN fun _ _ _ _ _ _ us hl => match us, hl with | [], _ => rfl
theorem b31 {K : PySem.W.Frag} {f : Addr} {fd : FuncData} (F : FunD K d31.id d31.id d31.params d31.body d31.scope [] [] f fd) : L2.Binds K fd d31.ps [] := F.bindsN fun _ _ _ _ _ _ us hl => match us, hl with | [_], _ => rfl
theorem kwm (g : Nat) (names : List Str) (perm : List Nat) : (g, names, perm) ∈ C0.KW ↔ (g = 12 ∧ names = (["moment", "watcher"] : List Str) ∧ perm = [1, 0]) ∨ (g = 14 ∧ names = (["watchers", "moment"] : List Str) ∧ perm = [0, 1]) ∨ (g = 20 ∧ names = (["wait", "watchers"] : List Str) ∧ perm = [1, 0]) ∨ (g = 21 ∧ names = (["wait", "watchers"] : List Str) ∧ perm = [1, 0]) ∨ (g = 22 ∧ names = (["watchers", "wait", "thing"] : List Str) ∧ perm = [0, 1, 2]) ∨ (g = 23 ∧ names = (["lates", "watchers", "moment", "newest", "elder", "times", "net"] : List Str) ∧ perm = [6, 5, 4, 3, 2, 1, 0]) := by
  unfold C0
  simp only [List.mem_cons, List.not_mem_nil, Prod.mk.injEq, or_false]
theorem binds : BindAll C0 0 ds := by
  refine ⟨?_, ?_, ?_, ?_, ?_, ?_, ?_, ?_, ?_, ?_, ?_, ?_, ?_, ?_, ?_, ?_, ?_, ?_, ?_, ?_, ?_, ?_, ?_, ?_, ?_, ?_, ?_, ?_, ?_, ?_, ?_, ?_, trivial⟩
  · refine fun K f fd F => ⟨b0 F, fun names perm h => ?_⟩
    have h := (kwm _ _ _).mp h
    simp at h
  · refine fun K f fd F => ⟨b1 F, fun names perm h => ?_⟩
    have h := (kwm _ _ _).mp h
    simp at h
  · refine fun K f fd F => ⟨b2 F, fun names perm h => ?_⟩
    have h := (kwm _ _ _).mp h
    simp at h
  · refine fun K f fd F => ⟨b3 F, fun names perm h => ?_⟩
    have h := (kwm _ _ _).mp h
    simp at h
  · refine fun K f fd F => ⟨b4 F, fun names perm h => ?_⟩
    have h := (kwm _ _ _).mp h
    simp at h
  · refine fun K f fd F => ⟨b5 F, fun names perm h => ?_⟩
    have h := (kwm _ _ _).mp h
    simp at h
  · refine fun K f fd F => ⟨b6 F, fun names perm h => ?_⟩
    have h := (kwm _ _ _).mp h
    simp at h
  · refine fun K f fd F => ⟨b7 F, fun names perm h => ?_⟩
    have h := (kwm _ _ _).mp h
    simp at h
  · refine fun K f fd F => ⟨b8 F, fun names perm h => ?_⟩
    have h := (kwm _ _ _).mp h
    simp at h
  · refine fun K f fd F => ⟨b9 F, fun names perm h => ?_⟩
    have h := (kwm _ _ _).mp h
    simp at h
  · refine fun K f fd F => ⟨b10 F, fun names perm h => ?_⟩
    have h := (kwm _ _ _).mp h
    simp at h
  · refine fun K f fd F => ⟨b11 F, fun names perm h => ?_⟩
    have h := (kwm _ _ _).mp h
    simp at h
  · refine fun K f fd F => ⟨b12 F, fun names perm h => ?_⟩
    have h := (kwm _ _ _).mp h
    rcases h with ⟨h1, h2, h3⟩ | ⟨h1, h2, h3⟩ | ⟨h1, h2, h3⟩ | ⟨h1, h2, h3⟩ | ⟨h1, h2, h3⟩ | ⟨h1, h2, h3⟩
    · subst h2 h3; exact b12_0 F
    · exact absurd h1 (by decide)
    · exact absurd h1 (by decide)
    · exact absurd h1 (by decide)
    · exact absurd h1 (by decide)
    · exact absurd h1 (by decide)
  · refine fun K f fd F => ⟨b13 F, fun names perm h => ?_⟩
    have h := (kwm _ _ _).mp h
    simp at h
  · refine fun K f fd F => ⟨b14 F, fun names perm h => ?_⟩
    have h := (kwm _ _ _).mp h
    rcases h with ⟨h1, h2, h3⟩ | ⟨h1, h2, h3⟩ | ⟨h1, h2, h3⟩ | ⟨h1, h2, h3⟩ | ⟨h1, h2, h3⟩ | ⟨h1, h2, h3⟩
    · exact absurd h1 (by decide)
    · subst h2 h3; exact b14_0 F
    · exact absurd h1 (by decide)
    · exact absurd h1 (by decide)
    · exact absurd h1 (by decide)
    · exact absurd h1 (by decide)
  · refine fun K f fd F => ⟨b15 F, fun names perm h => ?_⟩
    have h := (kwm _ _ _).mp h
    simp at h
  · refine fun K f fd F => ⟨b16 F, fun names perm h => ?_⟩
    have h := (kwm _ _ _).mp h
    simp at h
  · refine fun K f fd F => ⟨b17 F, fun names perm h => ?_⟩
    have h := (kwm _ _ _).mp h
    simp at h
  · refine fun K f fd F => ⟨b18 F, fun names perm h => ?_⟩
    have h := (kwm _ _ _).mp h
    simp at h
  · refine fun K f fd F => ⟨b19 F, fun names perm h => ?_⟩
    have h := (kwm _ _ _).mp h
    simp at h
  · refine fun K f fd F => ⟨b20 F, fun names perm h => ?_⟩
    have h := (kwm _ _ _).mp h
    rcases h with ⟨h1, h2, h3⟩ | ⟨h1, h2, h3⟩ | ⟨h1, h2, h3⟩ | ⟨h1, h2, h3⟩ | ⟨h1, h2, h3⟩ | ⟨h1, h2, h3⟩
    · exact absurd h1 (by decide)
    · exact absurd h1 (by decide)
    · subst h2 h3; exact b20_0 F
    · exact absurd h1 (by decide)
    · exact absurd h1 (by decide)
    · exact absurd h1 (by decide)
  · refine fun K f fd F => ⟨b21 F, fun names perm h => ?_⟩
    have h := (kwm _ _ _).mp h
    rcases h with ⟨h1, h2, h3⟩ | ⟨h1, h2, h3⟩ | ⟨h1, h2, h3⟩ | ⟨h1, h2, h3⟩ | ⟨h1, h2, h3⟩ | ⟨h1, h2, h3⟩
    · exact absurd h1 (by decide)
    · exact absurd h1 (by decide)
    · exact absurd h1 (by decide)
    · subst h2 h3; exact b21_0 F
    · exact absurd h1 (by decide)
    · exact absurd h1 (by decide)
  · refine fun K f fd F => ⟨b22 F, fun names perm h => ?_⟩
    have h := (kwm _ _ _).mp h
    rcases h with ⟨h1, h2, h3⟩ | ⟨h1, h2, h3⟩ | ⟨h1, h2, h3⟩ | ⟨h1, h2, h3⟩ | ⟨h1, h2, h3⟩ | ⟨h1, h2, h3⟩
    · exact absurd h1 (by decide)
    · exact absurd h1 (by decide)
    · exact absurd h1 (by decide)
    · exact absurd h1 (by decide)
    · subst h2 h3; exact b22_0 F
    · exact absurd h1 (by decide)
  · refine fun K f fd F => ⟨b23 F, fun names perm h => ?_⟩
    have h := (kwm _ _ _).mp h
    rcases h with ⟨h1, h2, h3⟩ | ⟨h1, h2, h3⟩ | ⟨h1, h2, h3⟩ | ⟨h1, h2, h3⟩ | ⟨h1, h2, h3⟩ | ⟨h1, h2, h3⟩
    · exact absurd h1 (by decide)
    · exact absurd h1 (by decide)
    · exact absurd h1 (by decide)
    · exact absurd h1 (by decide)
    · exact absurd h1 (by decide)
    · subst h2 h3; exact b23_0 F
  · refine fun K f fd F => ⟨b24 F, fun names perm h => ?_⟩
    have h := (kwm _ _ _).mp h
    simp at h
  · refine fun K f fd F => ⟨b25 F, fun names perm h => ?_⟩
    have h := (kwm _ _ _).mp h
    simp at h
  · refine fun K f fd F => ⟨b26 F, fun names perm h => ?_⟩
    have h := (kwm _ _ _).mp h
    simp at h
  · refine fun K f fd F => ⟨b27 F, fun names perm h => ?_⟩
    have h := (kwm _ _ _).mp h
    simp at h
  · refine fun K f fd F => ⟨b28 F, fun names perm h => ?_⟩
    have h := (kwm _ _ _).mp h
    simp at h
  · refine fun K f fd F => ⟨b29 F, fun names perm h => ?_⟩
    have h := (kwm _ _ _).mp h
    simp at h
  · refine fun K f fd F => ⟨b30 F, fun names perm h => ?_⟩
    have h := (kwm _ _ _).mp h
    simp at h
  · refine fun K f fd F => ⟨b31 F, fun names perm h => ?_⟩
    have h := (kwm _ _ _).mp h
    simp at h
end K48

namespace K48
open L2 PySem Sd PySem.Spec PyProof.Rows
abbrev R : PySem.W.OpenRow := PySem.W.OpenLaw.row PySem.Challenge.rw_suredue_k48_watchers_by_hand_and_refused
def fa : List He.Fa := heFa C0 cs ds
def fn : List He.DefD := heFn ds
abbrev hk : PySem.W.Hook := hookX 4 fa fn (exX C0)
def ob (s : PySem.W.SharedT) : He.AlD × Bool := obX 4 fa fn (exX C0) (HandSHeadRun.getT s)
theorem ob_eq (s : PySem.W.SharedT) : ob s = hk.obs s.abs := obX_eq (HandSHeadRun.getT_eq s)
def loose : List Str := (["NoPlace", "CanNot", "TooMuch", "is_number", "tuple_of", "is_tuple_of", "sure_channel", "first_sheet", "begun_ledger", "_closes", "_shows", "_does", "_with_deed", "comes", "ROUND", "is_watcher", "next_look", "lasts_of"] : List Str) ++ (["answered_at", "lags", "wait_wanted", "worst_moment", "is_enough", "needless", "fewest", "too_little", "is_too_little", "ledger_behind", "_law_same", "_law_lists", "_law_caught", "_law_told_right", "_law_judged_right", "_law_refused_right", "_law_ledgers_right"] : List Str)
theorem run (w : World) : HandSHeadRun.RunEqI R (PySem.W.view R.prog [0, 1, 43]) hk ob 20000 loose w := by
  unfold HandSHeadRun.RunEqI
  kernel_rfl
end K48

namespace K48
open L2 PySem Sd PySem.Spec PyProof.Rows
theorem text : textB C0 ds ft cs = true := by decide +kernel
end K48

namespace K48
open PySem Sd
theorem r27 : isOk (callN ft cs 39 27 [] []) = true := by decide +kernel
theorem r28 : isOk (callN ft cs 39 28 [] []) = true := by decide +kernel
theorem r29 : isOk (callN ft cs 39 29 [] []) = true := by decide +kernel
theorem r30 : isOk (callN ft cs 39 30 [] []) = true := by decide +kernel
theorem pure_ok (ns : List Int) (h : ns.length ≤ 63) : callN ft cs 40 31 [.v (.list (ns.map PyData.int))] [] = .ok (.v (.bool true)) [] := by
  have hl : (ns.map PyData.int).length ≤ 100000 := by rw [List.length_map]; omega
  have e : evAnd (callN ft cs 39) cs (.cons (.cmp .ge (.bi .len (.cons (.var 0) .nil)) (.int 0)) (.cons (.call 27 .nil) (.cons (.call 28 .nil) (.cons (.call 29 .nil) (.cons (.call 30 .nil) .nil))))) [some (.v (.list (ns.map PyData.int)))] [] = .ok (.v (.bool true)) [] := by
    rw [and_cons (len_ge hl), and_cons (call_nil (isOk_eq r27)), and_cons (call_nil (isOk_eq r28)), and_cons (call_nil (isOk_eq r29))]
    exact call_nil (isOk_eq r30)
  show (match (match (evAnd (callN ft cs 39) cs (.cons (.cmp .ge (.bi .len (.cons (.var 0) .nil)) (.int 0)) (.cons (.call 27 .nil) (.cons (.call 28 .nil) (.cons (.call 29 .nil) (.cons (.call 30 .nil) .nil))))) [some (.v (.list (ns.map PyData.int)))] []).st [some (.v (.list (ns.map PyData.int)))] fun v h1 => .rt v h1 with
    | .nx σ' h' => exs (callN ft cs 39) cs .nil σ' h'
    | z => z) with
    | .rt v h' => fin 0 v h'
    | .nx _ h' => fin 0 (.v .none) h'
    | .exn c xs _ h' => .exn c xs (h'.take 0)
    | _ => .stuck) = _
  rw [e]
  rfl
end K48

namespace K48
open L2 PySem Sd PySem.Spec PyProof.Rows
theorem facts {P : Program} {w : World} {K : PySem.W.Frag} {h : Heap} {mg : Str → Option Value} {f : Addr} (X : K.In h) (G0 : h.Ns mainGlobals mg) (hfa : mg ("law" : Str) = some (.ref f)) (c : He.SaysD fa fn K) (e : exX C0 K = true) :
    ∃ fd : FuncData, (∀ (s : Shared) (v : Value), BindsTo s fd ⟨[v], []⟩ [("_law_script", v)]) ∧ ∀ base : Heap, K.In base → base.Ns mainGlobals mg → FnOk P w K mg base (L2.CX P w) 40 f fd ["_law_script"] (spOf K (xrOf C0 K) (callN ft cs 40) 31) := by
  obtain ⟨EX, fds, M⟩ := facts_ok (d0 := d31) X G0 c e text binds (by unfold ds; simp)
  obtain ⟨t1, t2⟩ := text_ok text
  have hd : ds[31]? = some d31 := rfl
  have ef : f = He.ga K ((ds[31]?.map (·.id)).getD .empty) := by
    obtain ⟨_, hm, _⟩ := M.fn 31 d31 hd
    have z := hfa.symm.trans hm
    cases z
    rfl
  subst ef
  refine ⟨fds 31, fun s v => ?_, fun base _ _ => prog_ok M EX t1 t2 40 31 d31 hd⟩
  obtain ⟨F, _, _⟩ := M.fn 31 d31 hd
  have b := FunD.bindsA (ps := ["_law_script"]) F fun _ _ _ _ _ _ us hl => match us, hl with | [_], _ => rfl
  exact b s [v] rfl
end K48
open PySem.W PySem PyProof.Rows PySem.Calls
theorem PySem.Challenge.cw_suredue_k48_watchers_by_hand_and_refused_holds : PySem.Challenge.rw_suredue_k48_watchers_by_hand_and_refused.Holds := by
  w_on; o_law
  refine HandSHeadRun.head_imp (r := OpenLaw.row PySem.Challenge.rw_suredue_k48_watchers_by_hand_and_refused) (q := view (OpenLaw.row PySem.Challenge.rw_suredue_k48_watchers_by_hand_and_refused).prog [0, 1, 43]) (H := K48.hk) (ob := K48.ob) (M := 20000) (loose := K48.loose) (d := HandSHeadRun.topDef (OpenLaw.row PySem.Challenge.rw_suredue_k48_watchers_by_hand_and_refused).prog 43) (kwd := []) K48.ob_eq
    K48.run (by kernel_rfl) (by kernel_rfl) (by kernel_rfl) (by rfl) (by first | assumption | decide +kernel) (by decide +kernel) ⟨rfl, rfl, rfl, rfl, rfl, by decide +kernel⟩ ?hw ?hc
  case hw => w_witness2
  case hc =>
    refine Sd.walk_w (l := PySem.Challenge.rw_suredue_k48_watchers_by_hand_and_refused) (n := 63) (k := 40) (x := "_law_script") rfl (by decide) (by kernel_rfl) ⟨rfl, by decide, by decide⟩ ?F
    intro w mg fa h Y G hmg0
    obtain ⟨K, KX, c, e⟩ := Y
    have hmg : mg ("law" : PySem.Str) = some (.ref fa) := by
      have en : (HandSHeadRun.topDef (OpenLaw.row PySem.Challenge.rw_suredue_k48_watchers_by_hand_and_refused).prog 43).name = ("law" : PySem.Str) := by kernel_rfl
      rw [← en]
      exact hmg0
    obtain ⟨fd, hb, hF⟩ := K48.facts (P := (PySem.Challenge.rw_suredue_k48_watchers_by_hand_and_refused).prog) (w := w) KX G hmg c e
    exact ⟨K, fd, _, KX, hb, fun H a ns hl hS => Sd.law_sp hS (K48.pure_ok ns hl), hF⟩

