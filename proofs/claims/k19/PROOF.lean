import PyProof.Rows.All
import Wide.All
import OpenK.AllK
import Wide.FinOn
import HandS.ForMost
import HandS.EndBits
import HandS.Conv
import HandS.IsInst
import HandS.Deep
import HandS.Wide
import HandS.TupAny
import HandS.TupLe
import KE.DataCmp
import HandS.SetFor
import HandS.Strs
import HandS.Lambda
import HandS.Nested
import KE.KNestM
import KE.DataMinMax
import KE.SortData
import HandS.TupMul
import HandS.Flow
import HandS.Exc
import HandS.ExcOwn
import HandS.RaiseMore
import HandS.TryOnly
import HandS.ExcIs
import HandS.TupSets
import HandS.SortInts
import HandS.Rev
import HandS.Style
import KE.KRevSl
import HandS.Iter
import KE.GoesMore
import KE.GoesEnum
import HandS.Zip
import PySem.Challenge.RW_everyregular_k19_whole_counts_follow_the
set_option Elab.async false
set_option linter.all false
set_option maxRecDepth 100000
set_option maxHeartbeats 8000000
/-! A small language of values: what our defs mean, by functions on data. -/
namespace Mu
open PySem

abbrev D := PyData
/-- what a name of a def may hold: data, or one of the lists that are changed -/
inductive Val where
  | d (x : D)
  | p (i : Nat)
  /-- a function made by a def that called us: its number, what it has captured -/
  | c (j : Nat) (env : List Val)
  /-- a function made here: its number, where its captured names stand here -/
  | o (j : Nat) (js : List Nat)
abbrev Store := List (Option (List D))
abbrev Rho := List (Option Val)

inductive BOp | add | sub | mul | fdiv | mod
inductive COp | eq | ne | lt | le | gt | ge | inn | nin
inductive Cls | int | bool | str | tuple | list | dict
inductive BI | len | tup | lst | int | bool | all | any | max | min | sum | repr

mutual
inductive E where
  | var (i : Nat)
  | non
  | bl (b : Bool)
  | int (i : Int)
  | str (s : String)
  | con (x : String) (n : Nat)
  | tup (es : Es)
  | lst (es : Es)
  | dct (n : Nat)
  | rep (es : Es) (k : E)
  | bop (o : BOp) (a b : E)
  | neg (a : E)
  | inot (a : E)
  | cmp (o : COp) (a b : E)
  | chn (o o' : COp) (a b c : E)
  | isN (a : E)
  | notN (a : E)
  | isT (k n : Bool) (a : E)
  | band (es : Es)
  | bor (es : Es)
  | ite (c a b : E)
  | idx (a i : E)
  | sli (a : E) (lo hi : Oe)
  | isi (a : E) (c : Cls)
  | call (f : Nat) (es : Es)
  | callM (f : Nat) (es : Es)
  | callC (f : Nat) (es : Es)
  | callV (i : Nat) (es : Es)
  | lam (j : Nat) (js : List Nat)
  | ixof (a e : E)
  | rgL (e : E)
  | pop (a e : E)
  | rgL2 (a e : E)
  | rgT (e : E)
  | sset (e : E)
  | srt (e : E)
  | lset (e : E)
  | trv (e : E)
  | lrv (e : E)
  | mm2 (t : Bool) (a e : E)
  | bi (b : BI) (e : E)
  | comp (own : List Nat) (tg : Tg) (it : It) (cs : Es) (elt : E)
  | comp2 (own : List Nat) (tg : Tg) (it : It) (tg' : Tg) (it' : It) (cs' : Es) (elt : E)
inductive Es where
  | nil
  | cons (e : E) (es : Es)
inductive Oe where
  | no
  | so (e : E)
inductive It where
  | seq (e : E)
  | rng (e : E)
  | rng2 (a b : E)
  | rng3 (a b c : E)
  | zip (a b : E)
  | enu (a : E)
inductive Tg where
  | nm (i : Nat)
  | tp (is : List Nat)
end
inductive S where
  | set (i : Nat) (e : E)
  | setM (i : Nat) (e : E)
  | unp (is : List Nat) (e : E)
  | aug (i : Nat) (o : BOp) (e : E)
  | par (i j : Nat) (e d : E)
  | par3 (i j l : Nat) (e d g : E)
  | ext (a e : E)
  | ret (e : E)
  | retN
  | retM (e : E)
  | drop (e : E)
  | app (a e : E)
  | put (a i e : E)
  | put2 (a i b j e d : E)
  | ife (c : E) (a b : List S)
  | whl (c : E) (b : List S)
  | for_ (tg : Tg) (it : It) (b : List S)
  | brk
  | cnt
  | pass
  | ndef (i j : Nat) (js : List Nat)
  | rai (j : Nat) (e : E)
  | tryR (f : Nat) (es : Es) (j : Nat) (d : D)

/-! ### values -/
def deref (μ : Store) : Val → Option D
  | .d x => some x
  | .p i => match μ[i]? with
    | some (some ds) => some (.list ds)
    | _ => none
  | _ => none
/-- may be handed to a def -/
def notO : Val → Bool
  | .o .. => false
  | _ => true
/-- may be given back by a def -/
def plainV : Val → Bool
  | .d _ => true
  | .p _ => true
  | _ => false
/-- what a function made here has captured -/
def envOf (ρ : Rho) : List Nat → Option (List Val)
  | [] => some []
  | i :: is => match ρ[i]? with
    | some (some (.d x)) => (envOf ρ is).map (.d x :: ·)
    | some (some (.c j e)) => (envOf ρ is).map (.c j e :: ·)
    | _ => none
def cloV (ρ : Rho) : Val → Option Val
  | .o j js => (envOf ρ js).map (.c j)
  | v => some v
def cloVs (ρ : Rho) : List Val → Option (List Val)
  | [] => some []
  | v :: vs => (cloV ρ v).bind fun w => (cloVs ρ vs).map (w :: ·)
def mulOk (i j : Int) : Bool := (decide (-(2 ^ 64) < i) && decide (i < 2 ^ 64)) || (decide (-(2 ^ 64) < j) && decide (j < 2 ^ 64))
def bopD : BOp → D → D → Option D
  | .add, .int i, .int j => some (.int (i + j))
  | .add, .str x, .str y => if x.length + y.length ≤ sizeLine then some (.str (x ++ y)) else none
  | .add, .tuple xs, .tuple ys => if xs.length + ys.length ≤ sizeLine then some (.tuple (xs ++ ys)) else none
  | .add, .list xs, .list ys => if xs.length + ys.length ≤ sizeLine then some (.list (xs ++ ys)) else none
  | .sub, .int i, .int j => some (.int (i - j))
  | .mul, .int i, .int j => if mulOk i j = true then some (.int (i * j)) else none
  | .mul, .tuple xs, .int n => if xs.isEmpty = false ∧ 0 ≤ n ∧ n ≤ 1000 ∧ xs.length ≤ 1000 then some (.tuple (List.replicate n.toNat xs).flatten) else none
  | .fdiv, .int i, .int j => if 0 < j ∧ j < 1073741824 then some (.int (i / j)) else none
  | .mod, .int i, .int j => if 0 < j then some (.int (i % j)) else none
  | _, _, _ => none
/-- a list of ints -/
def intsD : List D → Option (List Int)
  | [] => some []
  | .int i :: r => (intsD r).map (i :: ·)
  | _ :: _ => none
def shp (x : D) : Bool := SeqAt.shaped x
def strEq : D → D → Option Bool
  | .str x, .str y => some (decide (x = y))
  | _, _ => none
def eqD (x y : D) : Option Bool := match strEq x y with
  | some b => some b
  | none => if shp x = true ∧ shp y = true then some (PyData.eqv x y) else none
/-- t >= u, from the first pair that differs on -/
def geI : List Int → List Int → Bool
  | _, [] => true
  | [], _ :: _ => false
  | x :: xs, y :: ys => if x = y then geI xs ys else decide (y ≤ x)
/-- t < u, for tuples alike -/
def ltD (x y : D) (b : Bool) : Option D := if shp x = true ∧ shp y = true ∧ PySem.W.alike x y = true then some (.bool b) else none
def cmpD : COp → D → D → Option D
  | .eq, x, y => (eqD x y).map .bool
  | .ne, x, y => (eqD x y).map fun b => .bool (!b)
  | .lt, .int i, .int j => some (.bool (decide (i < j)))
  | .lt, .tuple xs, .tuple ys => ltD (.tuple xs) (.tuple ys) (PySem.W.dataLt (.tuple xs) (.tuple ys))
  | .gt, .tuple xs, .tuple ys => ltD (.tuple xs) (.tuple ys) (PySem.W.dataLt (.tuple ys) (.tuple xs))
  | .le, .int i, .int j => some (.bool (decide (i ≤ j)))
  | .gt, .int i, .int j => some (.bool (decide (j < i)))
  | .ge, .int i, .int j => some (.bool (decide (j ≤ i)))
  | .ge, .tuple xs, .tuple ys => (intsD xs).bind fun a => (intsD ys).map fun b => .bool (geI a b)
  | .inn, x, .list ys => if shp x = true ∧ shp (.list ys) = true then some (.bool (ys.any fun z => PyData.eqv z x)) else none
  | .nin, x, .list ys => if shp x = true ∧ shp (.list ys) = true then some (.bool (!ys.any fun z => PyData.eqv z x)) else none
  | .inn, x, .tuple ys => if shp x = true ∧ shp (.tuple ys) = true then some (.bool (ys.any fun z => PyData.eqv z x)) else none
  | .nin, x, .tuple ys => if shp x = true ∧ shp (.tuple ys) = true then some (.bool (!ys.any fun z => PyData.eqv z x)) else none
  | _, _, _ => none
def truD : D → Option Bool
  | .none => some false
  | .bool b => some b
  | .int i => some (i != 0)
  | .str x => if x.length ≤ sizeLine then some ((x.length : Int) != 0) else none
  | .list xs => some (!xs.isEmpty)
  | .tuple xs => some (!xs.isEmpty)
  | .dict _ => none
def idxD : D → D → Option D
  | .list xs, .int i => L2.atI xs i
  | .tuple xs, .int i => L2.atI xs i
  | .str z, .int i => if z.length ≤ sizeLine then (L2.atI z.cps.toList i).map fun c => .str ⟨#[c]⟩ else none
  | _, _ => none
def cutD (xs : List D) (lo hi : Option Int) : List D := (xs.drop (HT.sIx xs.length 0 lo)).take (HT.sIx xs.length xs.length hi - HT.sIx xs.length 0 lo)
def sliD : D → Option Int → Option Int → Option D
  | .list xs, lo, hi => some (.list (cutD xs lo hi))
  | .tuple xs, lo, hi => some (.tuple (cutD xs lo hi))
  | .str z, lo, hi => if z.length ≤ sizeLine then some (.str (L2.cutS z lo hi)) else none
  | _, _, _ => none
def isiD : D → Cls → Bool
  | .int _, .int => true
  | .bool _, .int => true
  | .bool _, .bool => true
  | .str _, .str => true
  | .tuple _, .tuple => true
  | .list _, .list => true
  | .dict _, .dict => true
  | _, _ => false
def boolsD : List D → Option (List Bool)
  | [] => some []
  | .bool b :: r => (boolsD r).map (b :: ·)
  | _ :: _ => none
def biD : BI → D → Option D
  | .len, .list xs => some (.int xs.length)
  | .len, .tuple xs => some (.int xs.length)
  | .len, .str z => if z.length ≤ sizeLine then some (.int z.length) else none
  | .tup, .list xs => some (.tuple xs)
  | .tup, .tuple xs => some (.tuple xs)
  | .lst, .list xs => some (.list xs)
  | .lst, .tuple xs => some (.list xs)
  | .int, .int i => some (.int i)
  | .int, .bool b => some (.int (if b then 1 else 0))
  | .bool, .int i => some (.bool (i != 0))
  | .bool, .bool b => some (.bool b)
  | .max, .list xs => match intsD xs with
    | some (n :: ns) => some (.int (ns.foldl max n))
    | _ => none
  | .max, .tuple xs => match intsD xs with
    | some (n :: ns) => some (.int (ns.foldl max n))
    | _ => none
  | .min, .list xs => match intsD xs with
    | some (n :: ns) => some (.int (ns.foldl min n))
    | _ => none
  | .min, .tuple xs => match intsD xs with
    | some (n :: ns) => some (.int (ns.foldl min n))
    | _ => none
  | .sum, .list xs => (intsD xs).map fun ns => .int ns.sum
  | .all, .list xs => (boolsD xs).map fun bs => .bool (bs.all id)
  | .any, .list xs => (boolsD xs).map fun bs => .bool (bs.any id)
  | .repr, .tuple xs => if PyData.showable (.tuple xs) = true ∧ shp (.tuple xs) = true ∧ (PyData.shown (.tuple xs)).length ≤ sizeLine then some (.str (PyData.shown (.tuple xs))) else none
  | _, _ => none

/-- a.index(e): the first place of an equal item -/
def ixofD : D → D → Option D
  | .list ds, y => if shp (.list ds) = true ∧ shp y = true then (ds.findIdx? fun z => PyData.eqv z y).map fun (j : Nat) => .int j else none
  | _, _ => none

/-- in order, each once -/
def insU (k : Int) : List Int → List Int
  | [] => [k]
  | x :: r => if k < x then k :: x :: r else if k = x then x :: r else x :: insU k r
def sortU (ns : List Int) : List Int := ns.foldr insU []
/-- tuples of ints -/
def tupsD : List D → Option (List (List Int))
  | [] => some []
  | .tuple xs :: r => (intsD xs).bind fun ns => (tupsD r).map (ns :: ·)
  | _ :: _ => none
def tupI (ns : List Int) : D := .tuple (ns.map .int)
/-- few, of one length, of small numbers -/
def okTs (ts : List (List Int)) : Bool := decide (ts.length < 64) && ts.all fun t => decide (t.length = (ts.headD []).length) && decide (1 ≤ t.length) && t.all fun n => decide (0 ≤ n) && decide (n < 1000000)
def ltT : List Int → List Int → Bool
  | [], _ => false
  | _ :: _, [] => false
  | x :: xs, y :: ys => if x < y then true else if y < x then false else ltT xs ys
def insT (k : List Int) : List (List Int) → List (List Int)
  | [] => [k]
  | x :: r => if ltT k x = true then k :: x :: r else if k = x then x :: r else x :: insT k r
def sortT (ts : List (List Int)) : List (List Int) := ts.foldr insT []
/-- sorted, doubles kept -/
def insI (k : Int) : List Int → List Int
  | [] => [k]
  | x :: r => if k ≤ x then k :: x :: r else x :: insI k r
def sortI (ns : List Int) : List Int := ns.foldr insI []
def insP (k : List Int) : List (List Int) → List (List Int)
  | [] => [k]
  | x :: r => if ltT x k = true then x :: insP k r else k :: x :: r
def sortP (ts : List (List Int)) : List (List Int) := ts.foldr insP []
/-- sorted(set(xs)) -/
def ssetL (xs : List D) : Option D := match intsD xs with
  | some ns => if ns.length ≤ 1000 ∧ (sortU ns).length < 64 then some (.list ((sortU ns).map .int)) else none
  | none => match tupsD xs with
    | some ts => if okTs ts = true then some (.list ((sortT ts).map tupI)) else none
    | none => none
/-- sorted(xs) -/
def srtD : D → Option D
  | .list xs => match intsD xs with
    | some ns => some (.list ((sortI ns).map .int))
    | none => match tupsD xs with
      | some ts => if okTs ts = true then some (.list ((sortP ts).map tupI)) else none
      | none => none
  | _ => none
/-- tuple(reversed(x)), x a tuple -/
def trvD : D → Option D
  | .tuple xs => if xs.length ≤ sizeLine then some (.tuple xs.reverse) else none
  | _ => none
/-- x[::-1], x a list -/
def lrvD : D → Option D
  | .list xs => if xs.length ≤ sizeLine then some (.list xs.reverse) else none
  | _ => none
/-- len(set(xs)) -/
def lsetD : D → Option D
  | .list xs => (intsD xs).bind fun ns => if ns.length ≤ 1000 then some (.int (sortU ns).length) else none
  | _ => none
/-- max(a, b), min(a, b) -/
def mmD (t : Bool) (x y : D) : Option D := match x, y with
  | .int i, .int j => some (.int (if t = true then (if j > i then j else i) else if j < i then j else i))
  | _, _ => none
def ssetD : D → Option D
  | .list xs => ssetL xs
  | .tuple xs => ssetL xs
  | _ => none

/-! ### loops -/
def iterO {α β : Type} (f : α → Option (α ⊕ β)) : Nat → α → Option β
  | 0, _ => none
  | n + 1, a => match f a with
    | none => none
    | some (.inl a') => iterO f n a'
    | some (.inr b) => some b
open Classical in
noncomputable def whileO {α β : Type} (f : α → Option (α ⊕ β)) (a : α) : Option β :=
  if h : ∃ n, (iterO f n a).isSome = true then iterO f (Classical.choose h) a else none
inductive Flow where
  | nx
  | ret (v : Val)
  | bk
  | ct
  | xc (j : Nat)
/-- the list that is walked is as it was -/
def Still (v : Val) (xs : List D) (μ : Store) : Prop := match v with
  | .d _ => True
  | .p i => μ[i]? = some (some xs)
  | _ => False
open Classical in
/-- a comprehension's turns: each gives some items -/
noncomputable def compL (ok : Store → Prop) (f : D → Store → Option (List D × Store)) : List D → Store → Option (List D × Store)
  | [], μ => if ok μ then some ([], μ) else none
  | x :: xs, μ => if ok μ then (f x μ).bind fun (zs, μ1) => (compL ok f xs μ1).bind fun (ys, μ2) => some (zs ++ ys, μ2) else none
open Classical in
/-- a for's turns -/
noncomputable def forO {α : Type} (ok : α → Prop) (f : D → α → Option (α ⊕ (Flow × α))) : List D → α → Option (Flow × α)
  | [], a => if ok a then some (.nx, a) else none
  | x :: xs, a => if ok a then match f x a with
    | none => none
    | some (.inl a') => forO ok f xs a'
    | some (.inr r) => some r
    else none
def wipeR (ρ : Rho) : List Nat → Rho
  | [] => ρ
  | v :: vs => (wipeR ρ vs).set v none
def setAll : Rho → List Nat → List D → Option Rho
  | ρ, [], [] => some ρ
  | ρ, i :: is, x :: xs => setAll (ρ.set i (some (.d x))) is xs
  | _, _, _ => none
def Tg.ix : Tg → List Nat
  | .nm i => [i]
  | .tp is => is
def tgS (ρ : Rho) : Tg → D → Option Rho
  | .nm i, x => some (ρ.set i (some (.d x)))
  | .tp is, .tuple xs => setAll ρ is xs
  | _, _ => none
def rngD (a b : Int) : List D := (List.range (b - a).toNat).map fun (k : Nat) => PyData.int (a + (k : Int))
def rngB (a b : Int) : List D := (List.range (a - b).toNat).map fun (k : Nat) => PyData.int (a + (k : Int) * -1)
def rngOk (a b : Int) : Bool := decide (-(2 ^ 62) ≤ a) && decide (a < 2 ^ 62) && decide (-(2 ^ 62) ≤ b) && decide (b < 2 ^ 62) && decide ((b - a).toNat ≤ sizeLine)

/-- zip of two tuples -/
def zipD (xs ys : List D) : List D := List.zipWith (fun x y => PyData.tuple [x, y]) xs ys
def zipV : Val → Val → Option (List D)
  | .d (.tuple xs), .d (.tuple ys) => some (zipD xs ys)
  | _, _ => none

/-- enumerate of a tuple -/
def enuD (xs : List D) : List D := xs.mapIdx fun k x => PyData.tuple [.int k, x]
def enuV : Val → Option (List D)
  | .d (.tuple xs) => some (enuD xs)
  | _ => none

/-! ### meaning -/
abbrev Calls := Nat → List Val → Store → Option (Val × Store)
abbrev Cons := Nat → Option D
/-- from here on: the defs that give a new list to be changed -/
def mB : Nat := 1000000
/-- from here on: the defs that end with an exception: the number of its class -/
def xB : Nat := 2000000
def newL : Option (Val × Store) → Option (Val × Store)
  | some (.d (.list xs), μ) => some (.d (.list xs), μ)
  | _ => none
/-- read as data, as True or False, as a test -/
def toD (r : Option (Val × Store)) : Option (D × Store) := r.bind fun (v, μ1) => (deref μ1 v).map fun x => (x, μ1)
def toB (r : Option (Val × Store)) : Option (Bool × Store) := r.bind fun (v, μ1) => match v with
  | .d (.bool b) => some (b, μ1)
  | _ => none
def toT (r : Option (Val × Store)) : Option (Bool × Store) := r.bind fun (v, μ1) => (deref μ1 v).bind fun x => (truD x).map fun b => (b, μ1)
def toI (r : Option (Val × Store)) : Option (Int × Store) := r.bind fun (v, μ1) => match v with
  | .d (.int i) => some (i, μ1)
  | _ => none
/-- kept as data: a list that was changed is not changed any more -/
def frzV (μ1 : Store) : Val → Option (D × Store)
  | .d x => some (x, μ1)
  | .p i => match μ1[i]? with
    | some (some xs) => some (.list xs, μ1.set i none)
    | _ => none
  | _ => none
def toF (r : Option (Val × Store)) : Option (D × Store) := r.bind fun (v, μ1) => frzV μ1 v
def rd1 (μ : Store) (v : Val) (f : D → Option D) : Option (Val × Store) := (deref μ v).bind fun x => (f x).map fun z => (.d z, μ)
def rd2 (μ : Store) (v w : Val) (f : D → D → Option D) : Option (Val × Store) := (deref μ v).bind fun x => (deref μ w).bind fun y => (f x y).map fun z => (.d z, μ)
def noneV : Val → Bool
  | .d .none => true
  | _ => false
section
variable (C : Cons) (F : Calls)
/-- o.pop(k), k a place of it -/
def popV (μ : Store) (v : Val) (k : Int) : Option (Val × Store) := match v with
  | .p i => match μ[i]? with
    | some (some xs) => if 0 ≤ k ∧ k < 1000000 then (xs[k.toNat]?).map fun y => (.d y, μ.set i (some (xs.eraseIdx k.toNat))) else none
    | _ => none
  | _ => none
mutual
noncomputable def evE : E → Rho → Store → Option (Val × Store)
  | .var i, ρ, μ => match ρ[i]? with
    | some (some v) => some (v, μ)
    | _ => none
  | .non, _, μ => some (.d .none, μ)
  | .bl b, _, μ => some (.d (.bool b), μ)
  | .int i, _, μ => some (.d (.int i), μ)
  | .str s, _, μ => some (.d (.str s), μ)
  | .con _ n, _, μ => (C n).map fun x => (.d x, μ)
  | .tup es, ρ, μ => (evEs es ρ μ).bind fun (xs, μ1) => some (.d (.tuple xs), μ1)
  | .lst es, ρ, μ => (evEs es ρ μ).bind fun (xs, μ1) => some (.d (.list xs), μ1)
  | .dct _, _, μ => some (.d (.dict []), μ)
  | .rep es k, ρ, μ => (evEs es ρ μ).bind fun (xs, μ1) => (toI (evE k ρ μ1)).bind fun (n, μ2) => if -(2 ^ 63) ≤ n ∧ n < 2 ^ 63 ∧ xs.length * n.toNat ≤ sizeLine then some (.d (.list (List.flatten (List.replicate n.toNat xs))), μ2) else none
  | .bop o a b, ρ, μ => (evE a ρ μ).bind fun (v, μ1) => (evE b ρ μ1).bind fun (w, μ2) => rd2 μ2 v w (bopD o)
  | .neg a, ρ, μ => (toI (evE a ρ μ)).bind fun (i, μ1) => some (.d (.int (-i)), μ1)
  | .inot a, ρ, μ => (toT (evE a ρ μ)).bind fun (b, μ1) => some (.d (.bool (!b)), μ1)
  | .cmp o a b, ρ, μ => (evE a ρ μ).bind fun (v, μ1) => (evE b ρ μ1).bind fun (w, μ2) => rd2 μ2 v w (cmpD o)
  | .chn o o' a b c, ρ, μ => (evE a ρ μ).bind fun (v, μ1) => (evE b ρ μ1).bind fun (w, μ2) => (toB (rd2 μ2 v w (cmpD o))).bind fun (k, μ3) =>
      if k = true then (evE c ρ μ3).bind fun (u, μ4) => rd2 μ4 w u (cmpD o') else some (.d (.bool false), μ3)
  | .isN a, ρ, μ => (evE a ρ μ).bind fun (v, μ1) => some (.d (.bool (noneV v)), μ1)
  | .isT k n a, ρ, μ => (toB (evE a ρ μ)).bind fun (b, μ1) => some (.d (.bool (n ^^ decide (b = k))), μ1)
  | .notN a, ρ, μ => (evE a ρ μ).bind fun (v, μ1) => some (.d (.bool (!noneV v)), μ1)
  | .band es, ρ, μ => (evAnd es ρ μ).map fun (b, μ1) => (.d (.bool b), μ1)
  | .bor es, ρ, μ => (evOr es ρ μ).map fun (b, μ1) => (.d (.bool b), μ1)
  | .ite c a b, ρ, μ => (toT (evE c ρ μ)).bind fun (k, μ1) => if k = true then evE a ρ μ1 else evE b ρ μ1
  | .idx a i, ρ, μ => (evE a ρ μ).bind fun (v, μ1) => (evE i ρ μ1).bind fun (w, μ2) => rd2 μ2 v w idxD
  | .sli a lo hi, ρ, μ => (evE a ρ μ).bind fun (v, μ1) => (evO lo ρ μ1).bind fun (l, μ2) => (evO hi ρ μ2).bind fun (h, μ3) => rd1 μ3 v fun x => sliD x l h
  | .isi a c, ρ, μ => (evE a ρ μ).bind fun (v, μ1) => rd1 μ1 v fun x => some (.bool (isiD x c))
  | .call f es, ρ, μ => (evVs es ρ μ).bind fun (vs, μ1) => F f vs μ1
  | .callM f es, ρ, μ => (evVs es ρ μ).bind fun (vs, μ1) => newL (F (mB + f) vs μ1)
  | .callC f es, ρ, μ => (evVs es ρ μ).bind fun (vs, μ1) => (cloVs ρ vs).bind fun ws => (F f ws μ1).bind fun (r, μ2) => if plainV r = true then some (r, μ2) else none
  | .callV i es, ρ, μ => (evVs es ρ μ).bind fun (vs, μ1) => match ρ[i]? with
    | some (some (.c j env)) => if vs.all plainV = true then F j (vs ++ env) μ1 else none
    | _ => none
  | .lam j js, _, μ => some (.o j js, μ)
  | .ixof a e, ρ, μ => (evE a ρ μ).bind fun (v, μ1) => (deref μ1 v).bind fun _ => (evE e ρ μ1).bind fun (w, μ2) => rd2 μ2 v w ixofD
  | .pop a e, ρ, μ => (evE a ρ μ).bind fun (v, μ1) => (deref μ1 v).bind fun _ => (toI (evE e ρ μ1)).bind fun (k, μ2) => popV μ2 v k
  | .rgL2 a e, ρ, μ => (toI (evE a ρ μ)).bind fun (n, μ1) => (toI (evE e ρ μ1)).bind fun (m, μ2) => if rngOk n m = true then some (.d (.list (rngD n m)), μ2) else none
  | .rgL e, ρ, μ => (toI (evE e ρ μ)).bind fun (n, μ1) => if rngOk 0 n = true then some (.d (.list (rngD 0 n)), μ1) else none
  | .rgT e, ρ, μ => (toI (evE e ρ μ)).bind fun (n, μ1) => if rngOk 0 n = true then some (.d (.tuple (rngD 0 n)), μ1) else none
  | .sset e, ρ, μ => (evE e ρ μ).bind fun (v, μ1) => rd1 μ1 v ssetD
  | .srt e, ρ, μ => (evE e ρ μ).bind fun (v, μ1) => rd1 μ1 v srtD
  | .trv e, ρ, μ => (evE e ρ μ).bind fun (v, μ1) => rd1 μ1 v trvD
  | .lrv e, ρ, μ => (evE e ρ μ).bind fun (v, μ1) => rd1 μ1 v lrvD
  | .lset e, ρ, μ => (evE e ρ μ).bind fun (v, μ1) => rd1 μ1 v lsetD
  | .mm2 t a e, ρ, μ => (evE a ρ μ).bind fun (v, μ1) => (evE e ρ μ1).bind fun (w, μ2) => rd2 μ2 v w (mmD t)
  | .bi b e, ρ, μ => (evE e ρ μ).bind fun (v, μ1) => rd1 μ1 v (biD b)
  | .comp own tg it cs elt, ρ, μ => (evI it ρ μ).bind fun ((xs, v), μ1) =>
      (compL (Still v xs) (fun x μ1 => (tgS (wipeR ρ own) tg x).bind fun ρ1 => (evCs cs ρ1 μ1).bind fun (k, μ2) =>
        if k = true then (toF (evE elt ρ1 μ2)).bind fun (y, μ3) => some ([y], μ3) else some ([], μ2)) xs μ1).bind fun (ys, μ4) => some (.d (.list ys), μ4)
  | .comp2 own tg it tg' it' cs' elt, ρ, μ => (evI it ρ μ).bind fun ((xs, v), μ1) =>
      (compL (Still v xs) (fun x μ1 => (tgS (wipeR ρ own) tg x).bind fun ρ1 => (evI it' ρ1 μ1).bind fun ((ys, w), μ2) =>
        compL (Still w ys) (fun y μ2 => (tgS (wipeR ρ1 tg'.ix) tg' y).bind fun ρ2 => (evCs cs' ρ2 μ2).bind fun (k, μ3) =>
          if k = true then (toF (evE elt ρ2 μ3)).bind fun (z, μ4) => some ([z], μ4) else some ([], μ3)) ys μ2) xs μ1).bind fun (ys, μ5) => if ys.length ≤ sizeLine then some (.d (.list ys), μ5) else none
noncomputable def evEs : Es → Rho → Store → Option (List D × Store)
  | .nil, _, μ => some ([], μ)
  | .cons e es, ρ, μ => (toF (evE e ρ μ)).bind fun (x, μ1) => (evEs es ρ μ1).bind fun (xs, μ2) => some (x :: xs, μ2)
noncomputable def evVs : Es → Rho → Store → Option (List Val × Store)
  | .nil, _, μ => some ([], μ)
  | .cons e es, ρ, μ => (evE e ρ μ).bind fun (x, μ1) => (evVs es ρ μ1).bind fun (xs, μ2) => some (x :: xs, μ2)
noncomputable def evAnd : Es → Rho → Store → Option (Bool × Store)
  | .nil, _, _ => none
  | .cons e es, ρ, μ => match es with
    | .nil => toB (evE e ρ μ)
    | .cons _ _ => (toB (evE e ρ μ)).bind fun (b, μ1) => if b = true then evAnd es ρ μ1 else some (false, μ1)
noncomputable def evOr : Es → Rho → Store → Option (Bool × Store)
  | .nil, _, _ => none
  | .cons e es, ρ, μ => match es with
    | .nil => toB (evE e ρ μ)
    | .cons _ _ => (toB (evE e ρ μ)).bind fun (b, μ1) => if b = true then some (true, μ1) else evOr es ρ μ1
noncomputable def evCs : Es → Rho → Store → Option (Bool × Store)
  | .nil, _, μ => some (true, μ)
  | .cons e es, ρ, μ => match es with
    | .nil => toT (evE e ρ μ)
    | .cons _ _ => none
noncomputable def evO : Oe → Rho → Store → Option (Option Int × Store)
  | .no, _, μ => some (none, μ)
  | .so e, ρ, μ => (toI (evE e ρ μ)).bind fun (i, μ1) => some (some i, μ1)
noncomputable def evI : It → Rho → Store → Option ((List D × Val) × Store)
  | .seq e, ρ, μ => (evE e ρ μ).bind fun (v, μ1) => (deref μ1 v).bind fun x => match x with
    | .list xs => some ((xs, v), μ1)
    | .tuple xs => some ((xs, v), μ1)
    | _ => none
  | .rng e, ρ, μ => (toI (evE e ρ μ)).bind fun (b, μ1) => if rngOk 0 b = true then some ((rngD 0 b, .d .none), μ1) else none
  | .rng2 e e', ρ, μ => (toI (evE e ρ μ)).bind fun (a, μ1) => (toI (evE e' ρ μ1)).bind fun (b, μ2) => if rngOk a b = true then some ((rngD a b, .d .none), μ2) else none
  | .rng3 e e' e'', ρ, μ => (toI (evE e ρ μ)).bind fun (a, μ1) => (toI (evE e' ρ μ1)).bind fun (b, μ2) => (toI (evE e'' ρ μ2)).bind fun (c, μ3) => if c = -1 ∧ rngOk b a = true then some ((rngB a b, .d .none), μ3) else none
  | .zip e e', ρ, μ => (evE e ρ μ).bind fun (v, μ1) => (evE e' ρ μ1).bind fun (w, μ2) => (zipV v w).map fun xs => ((xs, .d .none), μ2)
  | .enu e, ρ, μ => (evE e ρ μ).bind fun (v, μ1) => (enuV v).map fun xs => ((xs, .d .none), μ1)
end
abbrev RS := Rho × Store
/-- a list that is changed has its place in the store -/
def bdV (μ : Store) : Val → Bool
  | .d _ => true
  | .p j => decide (j < μ.length)
  | .c .. => true
  | .o .. => false
/-- o.append(y) -/
def appV (μ : Store) (v : Val) (y : D) : Option Store := match v with
  | .p i => match μ[i]? with
    | some (some xs) => if xs.length < sizeLine then some (μ.set i (some (xs ++ [y]))) else none
    | _ => none
  | _ => none
/-- o.extend(ys) -/
def extV (μ : Store) (v : Val) (ys : List D) : Option Store := match v with
  | .p i => match μ[i]? with
    | some (some xs) => if xs.length + ys.length ≤ sizeLine then some (μ.set i (some (xs ++ ys))) else none
    | _ => none
  | _ => none
def lstV : Val → Option (List D)
  | .d (.list xs) => some xs
  | _ => none
/-- o[i] = y -/
def putV (μ : Store) (v : Val) (k : Int) (y : D) : Option Store := match v with
  | .p j => match μ[j]? with
    | some (some xs) => (L2.ixN xs.length k).map fun m => μ.set j (some (xs.set m y))
    | _ => none
  | _ => none
mutual
noncomputable def evS : S → Rho → Store → Option (Flow × RS)
  | .set i e, ρ, μ => (evE C F e ρ μ).bind fun (v, μ1) => if bdV μ1 v = true then some (.nx, ρ.set i (some v), μ1) else none
  | .par i j e d, ρ, μ => (evE C F e ρ μ).bind fun (v, μ1) => (evE C F d ρ μ1).bind fun (w, μ2) => if bdV μ2 v = true ∧ bdV μ2 w = true then some (.nx, (ρ.set i (some v)).set j (some w), μ2) else none
  | .par3 i j l e d g, ρ, μ => (evE C F e ρ μ).bind fun (v, μ1) => (evE C F d ρ μ1).bind fun (w, μ2) => (evE C F g ρ μ2).bind fun (u, μ3) => if bdV μ3 v = true ∧ bdV μ3 w = true ∧ bdV μ3 u = true then some (.nx, ((ρ.set i (some v)).set j (some w)).set l (some u), μ3) else none
  | .setM i e, ρ, μ => (evE C F e ρ μ).bind fun (v, μ1) => match v with
    | .d (.list xs) => some (.nx, ρ.set i (some (.p μ1.length)), μ1 ++ [some xs])
    | _ => none
  | .unp is e, ρ, μ => (evE C F e ρ μ).bind fun (v, μ1) => match v with
    | .d x => (tgS ρ (.tp is) x).bind fun ρ1 => some (.nx, ρ1, μ1)
    | _ => none
  | .aug i o e, ρ, μ => match ρ[i]? with
    | some (some (.d (.int x))) => (toI (evE C F e ρ μ)).bind fun (y, μ1) => match bopD o (.int x) (.int y) with
      | some (.int z) => some (.nx, ρ.set i (some (.d (.int z))), μ1)
      | _ => none
    | _ => none
  | .retN, ρ, μ => some (.ret (.d .none), ρ, μ)
  | .ret e, ρ, μ => (evE C F e ρ μ).bind fun (v, μ1) => some (.ret v, ρ, μ1)
  | .retM e, ρ, μ => (evE C F e ρ μ).bind fun (v, μ1) => match v with
    | .d (.list xs) => some (.ret (.p μ1.length), ρ, μ1 ++ [some xs])
    | _ => none
  | .drop e, ρ, μ => (evE C F e ρ μ).bind fun (_, μ1) => some (.nx, ρ, μ1)
  | .ext a e, ρ, μ => (evE C F a ρ μ).bind fun (v, μ1) => (deref μ1 v).bind fun _ => (evE C F e ρ μ1).bind fun (w, μ2) => (lstV w).bind fun ys => (extV μ2 v ys).map fun μ3 => (.nx, ρ, μ3)
  | .app a e, ρ, μ => (evE C F a ρ μ).bind fun (v, μ1) => (deref μ1 v).bind fun _ => (toF (evE C F e ρ μ1)).bind fun (y, μ2) => (appV μ2 v y).map fun μ3 => (.nx, ρ, μ3)
  | .put a i e, ρ, μ => (toF (evE C F e ρ μ)).bind fun (y, μ1) => (evE C F a ρ μ1).bind fun (v, μ2) => (toI (evE C F i ρ μ2)).bind fun (k, μ3) => (putV μ3 v k y).map fun μ4 => (.nx, ρ, μ4)
  | .put2 a i b j e d, ρ, μ => (toF (evE C F e ρ μ)).bind fun (y, μ1) => (toF (evE C F d ρ μ1)).bind fun (z, μ2) => (evE C F a ρ μ2).bind fun (v, μ3) => (toI (evE C F i ρ μ3)).bind fun (k, μ4) => (putV μ4 v k y).bind fun μ5 =>
      (evE C F b ρ μ5).bind fun (w, μ6) => (toI (evE C F j ρ μ6)).bind fun (l, μ7) => (putV μ7 w l z).map fun μ8 => (.nx, ρ, μ8)
  | .ife c a b, ρ, μ => (toT (evE C F c ρ μ)).bind fun (k, μ1) => if k = true then evSs a ρ μ1 else evSs b ρ μ1
  | .whl c b, ρ, μ => whileO (fun (x : RS) => (toT (evE C F c x.1 x.2)).bind fun (k, μ1) =>
      if k = true then (evSs b x.1 μ1).bind fun (f, y) => match f with
        | .nx => some (.inl y)
        | .ct => some (.inl y)
        | .bk => some (.inr (.nx, y))
        | .xc j => some (.inr (.xc j, y))
        | .ret v => some (.inr (.ret v, y))
      else some (.inr (.nx, x.1, μ1))) (ρ, μ)
  | .for_ tg it b, ρ, μ => (evI C F it ρ μ).bind fun ((xs, v), μ1) => forO (fun (x : RS) => Still v xs x.2) (fun x (a : RS) => (tgS a.1 tg x).bind fun ρ1 => (evSs b ρ1 a.2).bind fun (f, y) => match f with
      | .nx => some (.inl y)
      | .ct => some (.inl y)
      | .bk => some (.inr (.nx, y))
      | .xc j => some (.inr (.xc j, y))
      | .ret v => some (.inr (.ret v, y))) xs (ρ, μ1)
  | .brk, ρ, μ => some (.bk, ρ, μ)
  | .cnt, ρ, μ => some (.ct, ρ, μ)
  | .pass, ρ, μ => some (.nx, ρ, μ)
  | .ndef i j js, ρ, μ => some (.nx, ρ.set i (some (.o j js)), μ)
  | .rai j e, ρ, μ => (evE C F e ρ μ).bind fun (_, μ1) => some (.xc j, ρ, μ1)
  | .tryR f es j d, ρ, μ => (evVs C F es ρ μ).bind fun (vs, μ1) => match F f vs μ1 with
    | some (v, μ2) => some (.ret v, ρ, μ2)
    | none => match F (xB + f) vs μ1 with
      | some (.d (.int i), μ2) => if i = j then some (.ret (.d d), ρ, μ2) else none
      | _ => none
noncomputable def evSs : List S → Rho → Store → Option (Flow × RS)
  | [], ρ, μ => some (.nx, ρ, μ)
  | s :: r, ρ, μ => (evS s ρ μ).bind fun (f, x) => match f with
    | .nx => evSs r x.1 x.2
    | f => some (f, x)
end
end
/-- a def: its parameters, its names, its body -/
structure FD where
  ps : Nat
  n : Nat
  body : List S
def endD (μ : Store) (v : Val) (μ1 : Store) : Option (Val × Store) :=
  if μ.length ≤ μ1.length then match v with
    | .d x => some (.d x, μ1.take μ.length)
    | .p i => if i < μ.length then some (.p i, μ1.take μ.length) else (deref μ1 (.p i)).map fun x => (.d x, μ1.take μ.length)
    | _ => none
  else none
noncomputable def runD (C : Cons) (F : Calls) (fd : FD) (vs : List Val) (μ : Store) : Option (Val × Store) :=
  if vs.length = fd.ps ∧ vs.all (bdV μ) = true then (evSs C F fd.body (vs.map some ++ List.replicate (fd.n - fd.ps) none) μ).bind fun (f, x) => match f with
    | .nx => endD μ (.d .none) x.2
    | .ret v => endD μ v x.2
    | _ => none
  else none
/-- .. that ends with a list of its own, still to be changed -/
def endM (μ : Store) (v : Val) (μ1 : Store) : Option (Val × Store) := match v with
  | .p i => if μ.length ≤ i then match μ1[i]? with
    | some (some xs) => some (.d (.list xs), μ1.take μ.length)
    | _ => none
    else none
  | _ => none
noncomputable def runM (C : Cons) (F : Calls) (fd : FD) (vs : List Val) (μ : Store) : Option (Val × Store) :=
  if vs.length = fd.ps ∧ vs.all (bdV μ) = true then (evSs C F fd.body (vs.map some ++ List.replicate (fd.n - fd.ps) none) μ).bind fun (f, x) => match f with
    | .ret v => endM μ v x.2
    | _ => none
  else none
/-- .. that ends with an exception -/
noncomputable def runX (C : Cons) (F : Calls) (fd : FD) (vs : List Val) (μ : Store) : Option (Val × Store) :=
  if vs.length = fd.ps ∧ vs.all (bdV μ) = true then (evSs C F fd.body (vs.map some ++ List.replicate (fd.n - fd.ps) none) μ).bind fun (f, x) => match f with
    | .xc j => if μ.length ≤ x.2.length then some (.d (.int j), x.2.take μ.length) else none
    | _ => none
  else none
noncomputable def callF (C : Cons) (fs : List FD) : Nat → Calls
  | 0 => fun _ _ _ => none
  | k + 1 => fun f vs μ => if f < mB then (fs[f]?).bind fun fd => runD C (callF C fs k) fd vs μ else if f < xB then (fs[f - mB]?).bind fun fd => runM C (callF C fs k) fd vs μ else (fs[f - xB]?).bind fun fd => runX C (callF C fs k) fd vs μ
end Mu

/-! sorted(set(e)): a set is made of a list or a tuple of ints and read in order at once -/
namespace Mu
open PySem PySem.Spec
open PyProof.Rows L2

/-! ### in order, each once -/
theorem mem_insU (k j : Int) : ∀ l, j ∈ insU k l ↔ j = k ∨ j ∈ l
  | [] => by simp [insU]
  | x :: r => by
    unfold insU
    split
    · simp
    · split
      · rename_i h; subst h; simp
      · rw [List.mem_cons, mem_insU k j r, List.mem_cons]
        constructor
        · rintro (h | h | h)
          · exact .inr (.inl h)
          · exact .inl h
          · exact .inr (.inr h)
        · rintro (h | h | h)
          · exact .inr (.inl h)
          · exact .inl h
          · exact .inr (.inr h)
theorem mem_sortU (j : Int) : ∀ ns, j ∈ sortU ns ↔ j ∈ ns
  | [] => by simp [sortU]
  | n :: ns => by
    show j ∈ insU n (sortU ns) ↔ _
    rw [mem_insU, mem_sortU j ns, List.mem_cons]
theorem asc_insU (k : Int) : ∀ l : List Int, l.Pairwise (· < ·) → (insU k l).Pairwise (· < ·)
  | [], _ => by simp [insU]
  | x :: r, h => by
    obtain ⟨h1, h2⟩ := List.pairwise_cons.mp h
    unfold insU
    split
    · rename_i c
      refine List.pairwise_cons.mpr ⟨fun y hy => ?_, h⟩
      rcases List.mem_cons.mp hy with e | e
      · omega
      · have := h1 y e; omega
    · split
      · exact h
      · rename_i c c2
        refine List.pairwise_cons.mpr ⟨fun y hy => ?_, asc_insU k r h2⟩
        rcases (mem_insU k y r).mp hy with e | e
        · omega
        · exact h1 y e
theorem asc_sortU : ∀ ns, (sortU ns).Pairwise (· < ·)
  | [] => .nil
  | n :: ns => asc_insU n _ (asc_sortU ns)
theorem asc_ext : ∀ {a b : List Int}, a.Pairwise (· < ·) → b.Pairwise (· < ·) → (∀ k, k ∈ a ↔ k ∈ b) → a = b
  | [], [], _, _, _ => rfl
  | [], y :: b, _, _, h => absurd ((h y).mpr List.mem_cons_self) (by simp)
  | x :: a, [], _, _, h => absurd ((h x).mp List.mem_cons_self) (by simp)
  | x :: a, y :: b, ha, hb, h => by
    obtain ⟨a1, a2⟩ := List.pairwise_cons.mp ha
    obtain ⟨b1, b2⟩ := List.pairwise_cons.mp hb
    have e : x = y := by
      rcases List.mem_cons.mp ((h x).mp List.mem_cons_self) with e | e
      · exact e
      · rcases List.mem_cons.mp ((h y).mpr List.mem_cons_self) with e2 | e2
        · exact e2.symm
        · have := b1 x e; have := a1 y e2; omega
    subst e
    congr 1
    refine asc_ext a2 b2 fun k => ⟨fun hk => ?_, fun hk => ?_⟩
    · rcases List.mem_cons.mp ((h k).mp (List.mem_cons_of_mem _ hk)) with e | e
      · have := a1 k hk; omega
      · exact e
    · rcases List.mem_cons.mp ((h k).mpr (List.mem_cons_of_mem _ hk)) with e | e
      · have := b1 k hk; omega
      · exact e
theorem asc_nodup : ∀ {a : List Int}, a.Pairwise (· < ·) → a.Nodup
  | _, h => h.imp fun {x y} hxy => by omega
theorem sortU_congr {a b : List Int} (h : ∀ k, k ∈ a ↔ k ∈ b) : sortU a = sortU b :=
  asc_ext (asc_sortU a) (asc_sortU b) fun k => by rw [mem_sortU, mem_sortU, h k]
/-- lists without doubles of the same members are as long -/
theorem nodup_len {α : Type} [DecidableEq α] : ∀ (a b : List α), a.Nodup → (∀ k ∈ a, k ∈ b) → a.length ≤ b.length
  | [], _, _, _ => Nat.zero_le _
  | x :: a, b, ha, h => by
    obtain ⟨h1, h2⟩ := List.nodup_cons.mp ha
    have hx : x ∈ b := h x List.mem_cons_self
    have ih := nodup_len a (b.erase x) h2 fun k hk => (List.mem_erase_of_ne (fun e => h1 (by rw [← e]; exact hk))).mpr (h k (List.mem_cons_of_mem _ hk))
    rw [List.length_erase_of_mem hx] at ih
    have := List.length_pos_of_mem hx
    simp only [List.length_cons]
    omega

/-! ### the set, made of a list -/
section
variable {P : Program} {w : World} {A : Around} {E : Value → Shared → Prop} {s : Shared}
abbrev nuSet (w : World) : Obj := { cls := .type "set", dict := none, data := .set #[] 0 (.fresh 0 0 (!w.params.followText "set-order")) }
theorem set_of_list {l : Addr} {its : Array Value} (ns : List Int) {Q : Value → Shared → Prop} (hh : A.handled = none) (hl : s.heap.IsList l its) (hit : IntsAre its.toList ns) (hb : ns.length + 1 < scanBound)
    (h : ∀ (g : Heap) (tk c : Nat), SetR w g s.heap.objs.size (fun j => decide (j ∈ ns)) c → c ≤ ns.length → (∀ b o, s.heap.get? b = some o → g.get? b = some o) → Q (.ref s.heap.objs.size) { s with heap := g, toks := tk }) :
    wpAny (model P w) A (call (.type "set") [.ref l]) Q E s := by
  have hsz : its.size = ns.length := by rw [← Array.length_toList]; exact IntsAre.length hit
  have mr := F.called_set.mro
  obtain ⟨c0, tl, mr⟩ := mr
  have md := F.called_set.made
  have sb := F.called_set.sub
  have nt := F.called_set.notType
  have cc := F.called_set.canCreate
  have ct := F.typeCall_set_1 (.ref l)
  refine wpAny_call (codeAny_of_tree ?_)
  show wpAny _ _ (callAny (.type "set") _) _ _ _
  refine wpAny_pure ⟨Code.quiet_builtin _ (by decide +kernel), codeAny_builtin F.entry_type_call ?_⟩
  rw [Around.under_plain (weight_type_call_type "set" [.ref l] []) rfl]
  repeat (any_goals (first | assumption | wp_step))
  refine codeAny_mono (code_set_led1 (.ref l) (E := E) (Q₁ := fun ob s1 => ob = .ref s.heap.objs.size ∧ s1 = { s with heap := s.heap.push (nuSet w) }) ⟨rfl, rfl⟩) fun r s1 hr => ?_
  cases r with
  | error e => exact hr
  | ok fl =>
    cases fl with
    | ret ob =>
      obtain ⟨rfl, rfl⟩ := hr
      have at0 : (s.heap.push (nuSet w)).get? s.heap.objs.size = some (nuSet w) := Heap.get?_push_size _ rfl
      have ty0 : Shared.TypeIs { s with heap := s.heap.push (nuSet w) } (.ref s.heap.objs.size) "set" := ⟨_, at0, rfl⟩
      have il := F.called_set.init.lookup
      have ib := F.called_set.init.bind (.ref s.heap.objs.size)
      repeat (any_goals (first | assumption | wp_step))
      refine codeAny_mono (codeAny_call_builtin (R := wants (fun r s2 => r = .none ∧ ∃ g tk c, s2 = { s with heap := g, toks := tk } ∧ SetR w g s.heap.objs.size (fun j => decide (j ∈ ns)) c ∧ c ≤ ns.length ∧
          (∀ b o, s.heap.get? b = some o → g.get? b = some o)) E) F.called_set.init.plain F.entry_set_init (check_set_init_1 ty0 ?_)) fun r2 s2 hr2 => ?_
      · obtain ⟨⟨oc, od, oda, os⟩, hol, hcl, nl, hdl⟩ := hl
        simp only at hcl hdl
        subst hcl; subst hdl
        have at1 : (s.heap.push (nuSet w)).get? l = some { cls := .type "list", dict := od, data := .seq its nl, slots := os } := Heap.get?_push_of_some _ hol
        have q1 := F.sub_list_set
        have q2 := F.sub_list_frozenset
        have q3 : (Value.type "list" == Value.type "dict") = false := by decide
        have il1 : (s.heap.push (nuSet w)).IsList l its := ⟨_, at1, rfl, nl, rfl⟩
        unfold Builtin.«set.__init__» noKeywords Builtin.Frozenset.updateFrom
        generalize hPI : pyIter = PI
        wp_walk
        subst hPI
        refine wpAny_pyIter_list il1 ?_
        refine wpAny_bind (wpAny_runValue ?_)
        have lt : l < s.heap.objs.size := Heap.lt_size hol
        have h3 : A.in1.in1.in1.handled = none := by simp [hh]
        have z1 : (s.heap.push (nuSet w)).objs.size = s.heap.objs.size + 1 := Heap.size_push ..
        have ne1 : l ≠ (s.heap.push (nuSet w)).objs.size := by rw [z1]; exact Nat.ne_of_lt (Nat.lt_succ_of_lt lt)
        have nf : s.heap.objs.size ∉ [(s.heap.push (nuSet w)).objs.size, l] := by
          simp only [List.mem_cons, List.mem_singleton, List.not_mem_nil, or_false, not_or, z1]
          exact ⟨Nat.ne_of_lt (Nat.lt_succ_self _), Nat.ne_of_gt lt⟩
        have hv : ∀ (i : Nat) (v : Value), its[i]? = some v → ∃ k t, ns[i]? = some k ∧ v = .int k t := fun i v e => by
          have hi : i < ns.length := by rw [← hsz]; exact (Array.getElem?_eq_some_iff.mp e).1
          obtain ⟨t, et⟩ := IntsAre.int_at hit i v (by rw [Array.getElem?_toList]; exact e)
          refine ⟨ns[i], t, List.getElem?_eq_getElem hi, ?_⟩
          rw [et, List.getD_eq_getElem?_getD, List.getElem?_eq_getElem hi] <;> rfl
        refine set_update_ints ((Walks.list h3 _ l ne1 its).toS) s.heap.objs.size nf ns hsz hb hv (its.size - 0) 0 _ (by omega) (Nat.zero_le _)
          ⟨⟨_, Heap.get?_push_size _ rfl, rfl, rfl⟩, (il1.push _)⟩ ?a0 ?a1
        case a0 => exact ⟨0, Nat.le_refl 0, setR_new_at (Heap.get?_push_of_some _ at0)⟩
        case a1 =>
          intro s' c' hm hc' hS'
          obtain ⟨g, g2, d', tk', os'⟩ := s'
          have eg : g2 = s.gens := hm.gens
          have ed : d' = s.drawn := hm.drawn
          have eo : os' = s.os := hm.os
          subst eg; subst ed; subst eo
          show wpAny _ _ _ _ _ _
          refine wpAny_pure ?_
          show wpAny _ _ (ret Value.none) _ _ _
          rw [hsz] at hc'
          refine wpAny_pure ⟨rfl, g, tk', c', rfl, hS', hc', fun b o e => ?_⟩
          have hb0 : b < s.heap.objs.size := Heap.lt_size e
          refine hm.heap b o ?_ (Heap.get?_push_of_some _ (Heap.get?_push_of_some _ e))
          simp only [List.mem_cons, List.mem_singleton, List.not_mem_nil, or_false, not_or, z1]
          exact ⟨Nat.ne_of_lt hb0, Nat.ne_of_lt (Nat.lt_succ_of_lt hb0)⟩
      · cases r2 with
        | error e => exact hr2
        | ok fl2 =>
          cases fl2 with
          | ret r =>
            obtain ⟨rfl, g, tk, c', rfl, hS', hc', hk'⟩ := hr2
            repeat (any_goals (first | assumption | wp_step))
            exact h _ _ _ hS' hc' hk'
          | _ => exact hr2.elim
    | _ => exact hr.elim
end
/-- the number of its members -/
theorem setR_len {w : World} {h : Heap} {a : Addr} {ns : List Int} {c : Nat} (R : SetR w h a (fun j => decide (j ∈ ns)) c) : c = (sortU ns).length := by
  obtain ⟨o, es, ep, t, ho, hx, hd, g, nd, hm, hb, hf, hn, _⟩ := R
  have e1 : (es.toList.map keyOf).length = c := by rw [List.length_map, Array.length_toList]; exact hn
  have mm : ∀ k, k ∈ es.toList.map keyOf ↔ k ∈ sortU ns := fun k => by
    rw [← hm k, mem_sortU]; simp
  have a1 := nodup_len _ _ nd fun k hk => (mm k).mp hk
  have a2 := nodup_len _ _ (asc_nodup (asc_sortU ns)) fun k hk => (mm k).mpr hk
  omega
/-- set(e) -/
def rSetOf (K : PySem.W.Frag) (w : World) : List V → Hp → VK → Prop := fun vs H Q => ∃ (p : Addr) (ns : List Int), vs = [.ref p] ∧ (SqL K H p (ns.map V.int) ∨ SqT K H p (ns.map V.int)) ∧ ns.length ≤ 1000 ∧
  ∀ q, H q = none → Q (.ref q) (upd H q (SetO w q (fun j => decide (j ∈ ns)) (sortU ns).length))
theorem cr_setOf {X : Cx} (hc : X.calm = true) : CallR X (.type "set") (rSetOf X.K X.w) := by
  intro pins s σ H vs us Q I r h
  obtain ⟨p, ns, rfl, hq, hl, q⟩ := h
  rw [Vals.ref1 r]
  have fin : ∀ (g : Heap) (tk c : Nat), SetR X.w g s.heap.objs.size (fun j => decide (j ∈ ns)) c → c ≤ ns.length → (∀ b o, s.heap.get? b = some o → g.get? b = some o) → EP X pins σ Q (.ref s.heap.objs.size) { s with heap := g, toks := tk } := fun g tk c R hcn k => by
    have e := setR_len R
    subst e
    exact ⟨.ref _, upd H s.heap.objs.size (SetO X.w s.heap.objs.size (fun j => decide (j ∈ ns)) (sortU ns).length), I.laid k (Nat.le_refl _) (setO_new R), rfl, q _ (I.hok.fresh (Nat.le_refl _))⟩
  have hb : ns.length + 1 < scanBound := by unfold scanBound; omega
  rcases hq with hq | hq
  · obtain ⟨its, r, pl, hz⟩ := I.list hq
    exact set_of_list ns (I.ok.hd hc) pl.isList (by simpa using ints_of_vals r) hb fin
  · obtain ⟨its, r, pl, hz⟩ := I.tuple hq
    exact call_set_tupI ns (I.ok.hd hc) (show s.heap.IsTuple p its.toArray from pl) (by simpa using ints_of_vals r) hb fin
theorem pe_sset {X : Cx} {e : Expr} {te : TE} {p p2 pos pos2 : Pos} (hc : X.calm = true) (hg : Gl X "sorted") (hm : X.mg "sorted" = none) (hg2 : Gl X "set") (hm2 : X.mg "set" = none) (he : PE X e te)
    (hs : starEach [e] X.env = (false, eval e X.env) :: starEach [] X.env) : PE X (.Call (.Name "sorted" p) [.Call (.Name "set" p2) [e] [] pos2] [] pos) (tCB (rSortedSet X.w) (tCons (tCB (rSetOf X.K X.w) (tCons te tNil)) tNil)) :=
  pe_callB (cr_sortedSet hc) hg hm (by decide +kernel) (pa_cons (pe_callTy (cr_setOf hc) hg2 hm2 (by decide +kernel) (pa_cons he pa_nil hs) (by decide) (by decide) hs rfl) pa_nil rfl) (by decide) (by decide) rfl rfl
/-- len(set(xs)), xs a list of ints -/
def tLenSetI (K : PySem.W.Frag) (ta : TE) : TE := fun σ H Q => ta σ H fun x H1 => ∃ (l : Addr) (ns : List Int), x = .ref l ∧ SqL K H1 l (ns.map V.int) ∧ ns.length ≤ 1000 ∧ Q (.int (sortU ns).length) H1
theorem pe_lenSetI {X : Cx} {a : Expr} {ta : TE} {p p2 q pos : Pos} (hc : X.calm = true) (hg : Gl X "len") (hm : X.mg "len" = none) (hg2 : Gl X "set") (hm2 : X.mg "set" = none) (ha : PE X a ta)
    (na : starEach [a] X.env = (false, eval a X.env) :: starEach [] X.env) : PE X (.Call (.Name "len" p) [.Call (.Name "set" p2) [a] [] q] [] pos) (tLenSetI X.K ta) := by
  refine ⟨fun pins s σ H Q I h => ?_⟩
  refine Call_ (ld_blt I hg hm boot_len ?_)
  refine PyProof.Rows.callWith_builtin1 (PyProof.Rows.args_cons ?_ rfl) rfl rfl
  refine Call_ (ld_blt I hg2 hm2 boot_set ?_)
  refine PyProof.Rows.callWith_type1 (PyProof.Rows.args_cons (thn (ha.run pins s σ H _ I h) fun v s1 ⟨x, H1, I1, r1, q1⟩ => PyProof.Rows.args_nil ?_) na) na rfl
  obtain ⟨l, ns, rfl, hq, h1, q1⟩ := q1
  cases r1
  obtain ⟨its, r, pl, hz⟩ := I1.list hq
  refine set_of_list ns (I1.ok.hd hc) pl.isList (by simpa using ints_of_vals r) (by unfold scanBound; omega) fun g tk c R hcn k => ?_
  refine PyProof.Rows.args_nil ?_
  have e := setR_len R
  subst e
  obtain ⟨o, es, ep, t, ho, hex, hd, _, _, _, _, hf, hn, _⟩ := R
  have I2 : Inv X pins σ H1 { s1 with heap := g, toks := tk } := I1.kept k
  exact call_len_set ho hex hd hf (by rw [hn]; omega) ⟨.int (sortU ns).length, H1, I2.tok _, ⟨_, by rw [hn]⟩, q1⟩
end Mu

namespace Mu
open PySem PySem.Spec PyProof.Rows L2 LamX NdefX

/-! ### data as it lies in the abstract heap -/
/-- a list to be read, the object known -/
def LsX (K : PySem.W.Frag) (H : Hp) (a : Addr) (vs : List V) : Prop :=
  Rd H a (.lst vs) ∨ ∃ (its : Array Value) (n : Nat), K.lookup a = some { cls := .type "list", data := .seq its n } ∧ its.size ≤ sizeLine ∧ Vals vs its.toList
theorem LsX.sql {K : PySem.W.Frag} {H : Hp} {a : Addr} {vs : List V} (h : LsX K H a vs) : SqL K H a vs := by
  rcases h with h | ⟨its, n, h, z, r⟩
  · exact .inl h
  · exact .inr ⟨_, its, n, h, rfl, rfl, rfl, z, r⟩
theorem LsX.obj {X : Cx} {pins : List (Addr × Obj)} {σ : L2.St} {H : Hp} {s : Shared} {a : Addr} {vs : List V} (I : Inv X pins σ H s) (h : LsX X.K H a vs) :
    vs.length ≤ sizeLine ∧ ∃ (its : List Value) (n : Nat), Vals vs its ∧ s.heap.get? a = some { cls := .type "list", data := .seq its.toArray n } := by
  rcases h with h | ⟨its, n, h, z, r⟩
  · obtain ⟨z, its, n, r, e⟩ := h.ok I.hok
    exact ⟨z, its, n, r, e⟩
  · refine ⟨by rw [r.length]; simpa using z, its.toList, n, r, ?_⟩
    rw [I.kIn a _ h]
mutual
inductive Rp (K : PySem.W.Frag) (H : Hp) : V → D → Prop where
  | non : Rp K H .non .none
  | bl (b : Bool) : Rp K H (.bl b) (.bool b)
  | int (i : Int) : Rp K H (.int i) (.int i)
  | str (x : Str) : Rp K H (.str x) (.str x)
  | lst {a : Addr} {vs : List V} {ds : List D} (h : LsX K H a vs) (r : RpA K H vs ds) (z : ds.length ≤ sizeLine) : Rp K H (.ref a) (.list ds)
  | tup {a : Addr} {vs : List V} {ds : List D} (h : SqT K H a vs) (r : RpA K H vs ds) (z : ds.length ≤ sizeLine) : Rp K H (.ref a) (.tuple ds)
  | dct {a : Addr} {kvs : List (Key × V)} (h : H a = some (.dK kvs)) : Rp K H (.ref a) (.dict [])
inductive RpA (K : PySem.W.Frag) (H : Hp) : List V → List D → Prop where
  | nil : RpA K H [] []
  | cons {v : V} {x : D} {vs : List V} {xs : List D} (h : Rp K H v x) (t : RpA K H vs xs) : RpA K H (v :: vs) (x :: xs)
end
/-- all that was stands -/
def Le (G H : Hp) : Prop := ∀ a o, G a = some o → H a = some o
theorem Le.rfl' (G : Hp) : Le G G := fun _ _ h => h
theorem Le.trans {A B C : Hp} (x : Le A B) (y : Le B C) : Le A C := fun a o h => y a o (x a o h)
theorem Le.new {H : Hp} {p : Addr} {o : HO} (h : H p = none) : Le H (upd H p o) := fun b u e => by
  rw [upd_ne (ne_of_none e h)]; exact e
variable {K : PySem.W.Frag} {Fr G G' H H' : Hp} {M M' : Nat → Addr} {μ μ' : Store} {ρ ρ' : Rho} {σ σ' : L2.St}
theorem Le.lsx {a : Addr} {vs : List V} (e : Le G H) (h : LsX K G a vs) : LsX K H a vs := by
  rcases h with (h | ⟨o, h⟩) | h
  · exact .inl (.inl (e _ _ h))
  · exact .inl (.inr ⟨o, e _ _ h⟩)
  · exact .inr h
theorem Le.sqt {a : Addr} {vs : List V} (e : Le G H) (h : SqT K G a vs) : SqT K H a vs := by
  rcases h with (h | ⟨o, h⟩) | h
  · exact .inl (.inl (e _ _ h))
  · exact .inl (.inr ⟨o, e _ _ h⟩)
  · exact .inr h
mutual
theorem Rp.mono (e : Le G H) : ∀ {x : D} {v : V}, Rp K G v x → Rp K H v x
  | .none, _, h => by cases h; exact .non
  | .bool _, _, h => by cases h; exact .bl _
  | .int _, _, h => by cases h; exact .int _
  | .str _, _, h => by cases h; exact .str _
  | .list ds, _, h => by
    cases h with
    | lst h r z => exact .lst (e.lsx h) (RpA.mono e r) z
  | .tuple ds, _, h => by
    cases h with
    | tup h r z => exact .tup (e.sqt h) (RpA.mono e r) z
  | .dict _, _, h => by
    cases h with
    | dct h => exact .dct (e _ _ h)
theorem RpA.mono (e : Le G H) : ∀ {xs : List D} {vs : List V}, RpA K G vs xs → RpA K H vs xs
  | [], _, h => by cases h; exact .nil
  | x :: xs, _, h => by
    cases h with
    | cons h t => exact .cons (Rp.mono e h) (RpA.mono e t)
end
mutual
theorem Rp.dp : ∀ {x : D} {v : V}, x.canLay0 = true → Rp K H v x → Dp K H v x
  | .none, _, _, h => by cases h; exact .non
  | .bool _, _, _, h => by cases h; exact .bl _
  | .int _, _, _, h => by cases h; exact .int _
  | .str _, _, _, h => by cases h; exact .str _
  | .list ds, _, c, h => by
    cases h with
    | lst h r z => exact .lst h.sql (RpA.dp (by simpa [PyData.canLay0] using c) r)
  | .tuple ds, _, c, h => by
    cases h with
    | tup h r z => exact .tup h (RpA.dp (by simpa [PyData.canLay0] using c) r)
  | .dict _, _, c, _ => by simp [PyData.canLay0] at c
theorem RpA.dp : ∀ {xs : List D} {vs : List V}, PyData.canLayAll0 xs = true → RpA K H vs xs → DpAll K H vs xs
  | [], _, _, h => by cases h; exact .nil
  | x :: xs, _, c, h => by
    have c' : x.canLay0 = true ∧ PyData.canLayAll0 xs = true := by simpa [PyData.canLayAll0] using c
    cases h with
    | cons h t => exact .cons (Rp.dp c'.1 h) (RpA.dp c'.2 t)
end
theorem RpA.length : ∀ {vs : List V} {xs : List D}, RpA K H vs xs → vs.length = xs.length
  | _, _, .nil => rfl
  | _, _, .cons _ t => congrArg (· + 1) (RpA.length t)
theorem RpA.get : ∀ {vs : List V} {xs : List D} {i : Nat} {x : D}, RpA K H vs xs → xs[i]? = some x → ∃ v, vs[i]? = some v ∧ Rp K H v x
  | _, _, _, _, .nil, e => by simp at e
  | _, _, 0, _, .cons h _, e => by simp at e; subst e; exact ⟨_, rfl, h⟩
  | _, _, i + 1, x, .cons _ t, e => by
    obtain ⟨v, h1, h2⟩ := RpA.get (i := i) (x := x) t (by simpa using e)
    exact ⟨v, by simpa using h1, h2⟩
theorem RpA.get' : ∀ {vs : List V} {xs : List D} {i : Nat} {v : V}, RpA K H vs xs → vs[i]? = some v → ∃ x, xs[i]? = some x ∧ Rp K H v x
  | _, _, _, _, .nil, e => by simp at e
  | _, _, 0, _, .cons h _, e => by simp at e; subst e; exact ⟨_, rfl, h⟩
  | _, _, i + 1, v, .cons _ t, e => by
    obtain ⟨x, h1, h2⟩ := RpA.get' (i := i) (v := v) t (by simpa using e)
    exact ⟨x, by simpa using h1, h2⟩
theorem RpA.append : ∀ {vs ws : List V} {xs ys : List D}, RpA K H vs xs → RpA K H ws ys → RpA K H (vs ++ ws) (xs ++ ys)
  | _, _, _, _, .nil, s => s
  | _, _, _, _, .cons h t, s => .cons h (RpA.append t s)
theorem RpA.take : ∀ {vs : List V} {xs : List D} (n : Nat), RpA K H vs xs → RpA K H (vs.take n) (xs.take n)
  | _, _, 0, _ => .nil
  | _, _, _ + 1, .nil => .nil
  | _, _, n + 1, .cons h t => .cons h (RpA.take n t)
theorem RpA.drop : ∀ {vs : List V} {xs : List D} (n : Nat), RpA K H vs xs → RpA K H (vs.drop n) (xs.drop n)
  | _, _, 0, h => h
  | _, _, _ + 1, .nil => .nil
  | _, _, n + 1, .cons _ t => RpA.drop n t
theorem RpA.set : ∀ {vs : List V} {xs : List D} (n : Nat) {v : V} {x : D}, Rp K H v x → RpA K H vs xs → RpA K H (vs.set n v) (xs.set n x)
  | _, _, _, _, _, _, .nil => .nil
  | _, _, 0, _, _, r, .cons _ t => .cons r t
  | _, _, n + 1, _, _, r, .cons h t => .cons h (RpA.set n r t)
theorem RpA.rep {vs : List V} {xs : List D} (h : RpA K H vs xs) : ∀ k : Nat, RpA K H (List.replicate k vs).flatten (List.replicate k xs).flatten
  | 0 => .nil
  | k + 1 => by rw [List.replicate_succ, List.replicate_succ, List.flatten_cons, List.flatten_cons]; exact h.append (RpA.rep h k)
theorem RpA.ints : ∀ {vs : List V} {xs : List D} {ns : List Int}, RpA K H vs xs → xs = ns.map PyData.int → vs = ns.map V.int
  | _, _, [], h, e => by subst e; cases h; rfl
  | _, _, n :: ns, h, e => by
    subst e
    cases h with
    | cons h t => cases h; rw [RpA.ints t rfl]; rfl
theorem RpA.bools : ∀ {vs : List V} {xs : List D} {bs : List Bool}, RpA K H vs xs → boolsD xs = some bs → vs = bs.map V.bl
  | _, [], bs, h, e => by cases h; simp [boolsD] at e; subst e; rfl
  | _, x :: xs, bs, h, e => by
    cases h with
    | cons h t =>
      cases x with
      | bool b =>
        simp only [boolsD, Option.map_eq_some_iff] at e
        obtain ⟨cs, e1, rfl⟩ := e
        cases h
        rw [RpA.bools t e1]; rfl
      | _ => simp [boolsD] at e

/-! ### functions as values -/
/-- a function's text -/
structure CTxt where
  params : Arguments
  body : FuncBody
  scope : Scope
/-- a made function: its words, the cells that it captured, its code object -/
structure CF where
  name : Str
  qual : Str
  txt : CTxt
  cl : List (Str × Addr)
  c : Addr
abbrev CF.fd (F : CF) (doc pm ctv : Value) : FuncData :=
  { name := F.name, qualname := F.qual, params := F.txt.params, body := F.txt.body, scope := F.txt.scope, globals := mainGlobals, closure := F.cl, defaults := .none, kwdefaults := .none, doc := doc, pyModule := pm, annotations := none, code := .ref F.c, closureTuple := ctv, builtins := builtinsNs }
/-- the object at f is the function F -/
def CloO (f : Addr) (F : CF) : HO := .ext fun h => ∃ (od : Option Addr) (sl : Array (Option Value)) (doc pm ctv : Value), h.get? f = some (⟨.type "function", od, .func (F.fd doc pm ctv), sl⟩ : Obj)
/-- the object at c is o, and stays so -/
def CelO (c : Addr) (o : Obj) : HO := .ext fun h => h.get? c = some o
/-- what is told of all functions made: the tables of code objects, the texts, the captured names -/
structure ST where
  tabs : List NTab
  chk : Nat → CTxt → Bool
  fr : Nat → List Str
/-- the functions made by the def that runs -/
abbrev OF := Nat → List Nat → CF → Prop
def noO : OF := fun _ _ _ => False
open Classical in
noncomputable def dropC (H : Hp) (p : Addr → Prop) : Hp := fun b => if p b then none else H b
def cellOf (cl : List (Str × Addr)) (b : Addr) : Prop := ∃ y, cl.lookup y = some b
mutual
inductive RC (K : PySem.W.Frag) (S : ST) : Hp → V → Val → Prop where
  | d {G : Hp} {v : V} {x : D} (h : Rp K G v x) : RC K S G v (.d x)
  | c {G : Hp} {a : Addr} {F : CF} {j : Nat} {env : List Val} (h : G a = some (CloO a F)) (hc : G F.c = some (CodeO F.c F.qual)) (ck : S.chk j F.txt = true) (ky : ∀ y c, F.cl.lookup y = some c → y ∈ S.fr j)
      (inj : ∀ x y c, F.cl.lookup x = some c → F.cl.lookup y = some c → x = y) (nd : (S.fr j).Nodup) (cs : RCs K S G F.cl (S.fr j) env) : RC K S G (.ref a) (.c j env)
inductive RCs (K : PySem.W.Frag) (S : ST) : Hp → List (Str × Addr) → List Str → List Val → Prop where
  | nil {G : Hp} {cl : List (Str × Addr)} : RCs K S G cl [] []
  | cons {G : Hp} {cl : List (Str × Addr)} {y : Str} {fr : List Str} {w : Val} {ws : List Val} {c : Addr} {o : Obj} {u : Value} {v : V} (h1 : cl.lookup y = some c) (h2 : G c = some (CelO c o)) (h3 : o.data = .cell (some u)) (rv : RelV v u)
      (r : RC K S (dropC G (cellOf cl)) v w) (t : RCs K S G cl fr ws) : RCs K S G cl (y :: fr) (w :: ws)
end
theorem dropC_some {H : Hp} {p : Addr → Prop} {b : Addr} {o : HO} (h : dropC H p b = some o) : H b = some o ∧ ¬ p b := by
  unfold dropC at h
  split at h
  · cases h
  · rename_i n; exact ⟨h, n⟩
theorem dropC_of {H : Hp} {p : Addr → Prop} {b : Addr} (n : ¬ p b) : dropC H p b = H b := if_neg n
theorem dropC_in {H : Hp} {p : Addr → Prop} {b : Addr} (n : p b) : dropC H p b = none := if_pos n
theorem dropC_none {H : Hp} {p : Addr → Prop} {b : Addr} (h : H b = none) : dropC H p b = none := by
  unfold dropC
  split
  · rfl
  · exact h
theorem Le.drop {p : Addr → Prop} (e : Le G H) : Le (dropC G p) (dropC H p) := fun a o h => by
  obtain ⟨h1, h2⟩ := dropC_some h
  rw [dropC_of h2]
  exact e a o h1
theorem RC.mono {S : ST} {v : V} {w : Val} (h : RC K S G v w) : ∀ {H : Hp}, Le G H → RC K S H v w :=
  RC.rec (motive_1 := fun G v w _ => ∀ {H : Hp}, Le G H → RC K S H v w) (motive_2 := fun G cl fr ws _ => ∀ {H : Hp}, Le G H → RCs K S H cl fr ws)
    (fun h _ e => .d (h.mono e)) (fun h hc ck ky inj nd _ ih _ e => .c (e _ _ h) (e _ _ hc) ck ky inj nd (ih e)) (fun _ => .nil)
    (fun h1 h2 h3 rv _ _ ih1 ih2 _ e => .cons h1 (e _ _ h2) h3 rv (ih1 e.drop) (ih2 e)) h

/-! ### the state -/
inductive RV (K : PySem.W.Frag) (S : ST) (O : OF) (M : Nat → Addr) (G : Hp) : V → Val → Prop where
  | d {v : V} {x : D} (h : Rp K G v x) : RV K S O M G v (.d x)
  | p (i : Nat) : RV K S O M G (.ref (M i)) (.p i)
  | c {v : V} {j : Nat} {env : List Val} (h : RC K S G v (.c j env)) : RV K S O M G v (.c j env)
  | o {a : Addr} {F : CF} {j : Nat} {js : List Nat} (h : G a = some (CloO a F)) (hc : G F.c = some (CodeO F.c F.qual)) (w : O j js F) : RV K S O M G (.ref a) (.o j js)
theorem _root_.NdefX.TabsN.but {T : List NTab} {H H' : Hp} (t : TabsN T H) (e : ∀ b o, H b = some o → (∀ vs, o ≠ .lst vs) → H' b = some o) : TabsN T H' := fun p hp => by
  obtain ⟨ps, h1, h2, h3⟩ := t p hp
  refine ⟨ps, e _ _ h1 (fun vs z => by cases z), h2, fun pos cv hc => ?_⟩
  obtain ⟨c, e1, e2⟩ := h3 pos cv hc
  exact ⟨c, e1, e _ _ e2 fun vs z => by unfold CodeO at z; cases z⟩
/-- the tables of code objects; what is read holds none; what callers hold are lists -/
structure Tb (S : ST) (Fr G H : Hp) : Prop where
  tab : TabsN S.tabs H
  nt : ∀ b ps, G b ≠ some (.tbl ps)
  frL : ∀ a o, Fr a = some o → ∃ vs, o = .lst vs
theorem Tb.new {S : ST} {p : Addr} {o : HO} (t : Tb S Fr G H) (hp : H p = none) (no : ∀ ps, o ≠ .tbl ps) : Tb S Fr (upd G p o) (upd H p o) := ⟨t.tab.ext (Le.new hp), fun b ps e => by
  by_cases h : b = p
  · rw [h, upd_same] at e; exact no ps (Option.some.inj e)
  · rw [upd_ne h] at e; exact t.nt b ps e, t.frL⟩
theorem Tb.new' {S : ST} {p : Addr} {o : HO} (t : Tb S Fr G H) (hp : H p = none) : Tb S Fr G (upd H p o) := ⟨t.tab.ext (Le.new hp), t.nt, t.frL⟩
theorem Tb.gl {S : ST} {p : Addr} {vs : List V} (t : Tb S Fr G H) : Tb S Fr (upd G p (.lst vs)) H := ⟨t.tab, fun b ps e => by
  by_cases h : b = p
  · rw [h, upd_same] at e; cases e
  · rw [upd_ne h] at e; exact t.nt b ps e, t.frL⟩
theorem Tb.but {S : ST} {H' : Hp} (t : Tb S Fr G H) (e : ∀ b o, H b = some o → (∀ vs, o ≠ .lst vs) → H' b = some o) : Tb S Fr G H' := ⟨t.tab.but e, t.nt, t.frL⟩
theorem Tb.fr {S : ST} {p : Addr} {vs : List V} (t : Tb S Fr G H) : Tb S (upd Fr p (.lst vs)) G H := ⟨t.tab, t.nt, fun a o e => by
  by_cases h : a = p
  · rw [h, upd_same] at e; exact ⟨vs, (Option.some.inj e).symm⟩
  · rw [upd_ne h] at e; exact t.frL a o e⟩
theorem Tb.grown {S : ST} {p : Addr} {o : HO} {vs : List V} (t : Tb S (upd Fr p o) G H) : Tb S (upd Fr p (.lst vs)) G H := ⟨t.tab, t.nt, fun a u e => by
  by_cases h : a = p
  · rw [h, upd_same] at e; exact ⟨vs, (Option.some.inj e).symm⟩
  · rw [upd_ne h] at e; exact t.frL a u (by rw [upd_ne h]; exact e)⟩
theorem Tb.unfr {S : ST} {p : Addr} {o : HO} (t : Tb S (upd Fr p o) G H) (fp : Fr p = none) : Tb S Fr G H := ⟨t.tab, t.nt, fun a u e => t.frL a u (by rw [upd_ne (ne_of_none e fp)]; exact e)⟩
structure SS (K : PySem.W.Frag) (S : ST) (Fr : Hp) (M : Nat → Addr) (G H : Hp) (μ : Store) : Prop where
  sub : Le G H
  cell : ∀ (i : Nat) (ds : List D), μ[i]? = some (some ds) → ∃ vs, H (M i) = some (.lst vs) ∧ RpA K G vs ds ∧ ds.length ≤ sizeLine
  out : ∀ (i : Nat) (ds : List D), μ[i]? = some (some ds) → G (M i) = none
  inj : ∀ (i j : Nat) (ds es : List D), μ[i]? = some (some ds) → μ[j]? = some (some es) → M i = M j → i = j
  frm : Le Fr H
  frG : ∀ (a : Addr) (o : HO), Fr a = some o → G a = none
  frM : ∀ (i : Nat) (ds : List D), μ[i]? = some (some ds) → Fr (M i) = none
  tab : Tb S Fr G H
structure RR (K : PySem.W.Frag) (S : ST) (O : OF) (M : Nat → Addr) (G : Hp) (ρ : Rho) (σ : L2.St) : Prop where
  len : ρ.length = σ.length
  at_ : ∀ (i : Nat) (w : Val), ρ[i]? = some (some w) → ∃ v, σ[i]? = some (some v) ∧ RV K S O M G v w
variable {S : ST} {O : OF}
theorem RV.mono {v : V} {w : Val} (e : Le G G') (h : RV K S O M G v w) : RV K S O M G' v w := by
  cases h with
  | d h => exact .d (h.mono e)
  | p i => exact .p i
  | c h => exact .c (h.mono e)
  | o h hc w => exact .o (e _ _ h) (e _ _ hc) w
theorem RR.mono (e : Le G G') (h : RR K S O M G ρ σ) : RR K S O M G' ρ σ := ⟨h.len, fun i w q => let ⟨v, a, b⟩ := h.at_ i w q; ⟨v, a, b.mono e⟩⟩
theorem RR.set (h : RR K S O M G ρ σ) {i : Nat} {v : V} {w : Val} (r : RV K S O M G v w) : RR K S O M G (ρ.set i (some w)) (σ.set i (some v)) := by
  refine ⟨by simp [h.len], fun j u q => ?_⟩
  by_cases e : i = j
  · subst e
    rw [List.getElem?_set] at q ⊢
    by_cases hl : i < ρ.length
    · simp [hl] at q
      subst q
      exact ⟨v, by simp [← h.len, hl], r⟩
    · simp [hl] at q
  · rw [List.getElem?_set_ne e] at q ⊢
    exact h.at_ j u q
theorem RR.wiped (h : RR K S O M G ρ σ) : ∀ vs : List Nat, RR K S O M G (wipeR ρ vs) (wipe σ vs)
  | [] => h
  | v :: vs => by
    have ih := RR.wiped h vs
    unfold wipeR wipe
    refine ⟨by simp [ih.len], fun j u q => ?_⟩
    by_cases e : v = j
    · subst e
      rw [List.getElem?_set] at q
      by_cases hl : v < (wipeR ρ vs).length
      · simp [hl] at q
      · simp [hl] at q
    · rw [List.getElem?_set_ne e] at q ⊢
      exact ih.at_ j u q
theorem SS.rd (s : SS K S Fr M G H μ) {v : V} {w : Val} {x : D} (r : RV K S O M G v w) (e : deref μ w = some x) : Rp K H v x := by
  cases r with
  | d h => simp only [deref, Option.some.injEq] at e; subst e; exact h.mono s.sub
  | p i =>
    unfold deref at e
    simp only at e
    split at e
    · rename_i ds hd
      cases e
      obtain ⟨vs, h1, h2, z⟩ := s.cell i ds hd
      exact .lst (.inl (.inl h1)) (h2.mono s.sub) z
    · cases e
  | c h => cases e
  | o h hc w => cases e
theorem SS.rdL (s : SS K S Fr M G H μ) {v : V} {w : Val} {ds : List D} (r : RV K S O M G v w) (e : deref μ w = some (.list ds)) : ∃ a vs, v = .ref a ∧ LsX K H a vs ∧ RpA K G vs ds ∧ ds.length ≤ sizeLine := by
  cases r with
  | d h =>
    simp only [deref, Option.some.injEq] at e; subst e
    cases h with
    | lst h r z => exact ⟨_, _, rfl, s.sub.lsx h, r, z⟩
  | p i =>
    unfold deref at e
    simp only at e
    split at e
    · rename_i es hd
      cases e
      obtain ⟨vs, h1, h2, z⟩ := s.cell i _ hd
      exact ⟨_, _, rfl, .inl (.inl h1), h2, z⟩
    · cases e
  | c h => cases e
  | o h hc w => cases e
theorem SS.rdT (s : SS K S Fr M G H μ) {v : V} {w : Val} {ds : List D} (r : RV K S O M G v w) (e : deref μ w = some (.tuple ds)) : ∃ a vs, v = .ref a ∧ SqT K H a vs ∧ RpA K G vs ds ∧ ds.length ≤ sizeLine := by
  cases r with
  | d h =>
    simp only [deref, Option.some.injEq] at e; subst e
    cases h with
    | tup h r z => exact ⟨_, _, rfl, s.sub.sqt h, r, z⟩
  | p i =>
    unfold deref at e
    simp only at e
    split at e <;> cases e
  | c h => cases e
  | o h hc w => cases e
theorem SS.frFree (s : SS K S Fr M G H μ) {p : Addr} (hp : H p = none) : Fr p = none := by
  cases q : Fr p with
  | none => rfl
  | some u => rw [s.frm p u q] at hp; cases hp
/-- a new object of ours -/
theorem SS.new (s : SS K S Fr M G H μ) {p : Addr} {o : HO} (hp : H p = none) (no : ∀ ps, o ≠ .tbl ps := by intro ps h; cases h) : SS K S Fr M (upd G p o) (upd H p o) μ ∧ Le G (upd G p o) := by
  have gp : G p = none := by
    cases q : G p with
    | none => rfl
    | some u => rw [s.sub p u q] at hp; cases hp
  have le : Le G (upd G p o) := Le.new gp
  have fp := s.frFree hp
  refine ⟨⟨fun a u e => ?_, fun i ds e => ?_, fun i ds e => ?_, s.inj, s.frm.trans (Le.new hp), fun a u e => by rw [upd_ne (ne_of_none e fp)]; exact s.frG a u e, s.frM, s.tab.new hp no⟩, le⟩
  · by_cases h : a = p
    · subst h; rw [upd_same] at e ⊢; exact e
    · rw [upd_ne h] at e ⊢; exact s.sub a u e
  · obtain ⟨vs, h1, h2, z⟩ := s.cell i ds e
    exact ⟨vs, by rw [upd_ne (ne_of_none h1 hp)]; exact h1, h2.mono le, z⟩
  · obtain ⟨vs, h1, _⟩ := s.cell i ds e
    rw [upd_ne (ne_of_none h1 hp)]; exact s.out i ds e
/-- .. that is not ours to read -/
theorem SS.new' (s : SS K S Fr M G H μ) {p : Addr} {o : HO} (hp : H p = none) : SS K S Fr M G (upd H p o) μ := by
  refine ⟨s.sub.trans (Le.new hp), fun i ds e => ?_, s.out, s.inj, s.frm.trans (Le.new hp), s.frG, s.frM, s.tab.new' hp⟩
  obtain ⟨vs, h1, h2, z⟩ := s.cell i ds e
  exact ⟨vs, by rw [upd_ne (ne_of_none h1 hp)]; exact h1, h2, z⟩
theorem SS.free (s : SS K S Fr M G H μ) {p : Addr} (hp : H p = none) : G p = none := by
  cases q : G p with
  | none => rfl
  | some u => rw [s.sub p u q] at hp; cases hp
theorem SS.tup (s : SS K S Fr M G H μ) {p : Addr} {vs : List V} {xs : List D} (hp : H p = none) (r : RpA K G vs xs) (z : xs.length ≤ sizeLine) :
    ∃ G', Le G G' ∧ SS K S Fr M G' (upd H p (.tup vs)) μ ∧ Rp K G' (.ref p) (.tuple xs) := by
  obtain ⟨a, b⟩ := s.new (o := .tup vs) hp
  exact ⟨_, b, a, .tup (.inl (.inl upd_same)) (r.mono b) z⟩
theorem SS.lst (s : SS K S Fr M G H μ) {p : Addr} {vs : List V} {xs : List D} (hp : H p = none) (r : RpA K G vs xs) (z : xs.length ≤ sizeLine) :
    ∃ G', Le G G' ∧ SS K S Fr M G' (upd H p (.lst vs)) μ ∧ Rp K G' (.ref p) (.list xs) := by
  obtain ⟨a, b⟩ := s.new (o := .lst vs) hp
  exact ⟨_, b, a, .lst (.inl (.inl upd_same)) (r.mono b) z⟩
/-- a list of ours is not changed any more -/
theorem SS.frz (s : SS K S Fr M G H μ) {i : Nat} {ds : List D} (e : μ[i]? = some (some ds)) :
    ∃ G', Le G G' ∧ SS K S Fr M G' H (μ.set i none) ∧ Rp K G' (.ref (M i)) (.list ds) := by
  obtain ⟨vs, h1, h2, z⟩ := s.cell i ds e
  have g := s.out i ds e
  have le : Le G (upd G (M i) (.lst vs)) := Le.new g
  have live : ∀ j es, (μ.set i none)[j]? = some (some es) → j ≠ i ∧ μ[j]? = some (some es) := fun j es q => by
    by_cases h : i = j
    · subst h
      have hi : i < μ.length := (List.getElem?_eq_some_iff.mp e).1
      rw [List.getElem?_set_self hi] at q
      simp at q
    · rw [List.getElem?_set_ne h] at q
      exact ⟨fun z => h z.symm, q⟩
  refine ⟨upd G (M i) (.lst vs), le, ⟨fun a u q => ?_, fun j es q => ?_, fun j es q => ?_, fun j k es fs q r => s.inj j k es fs (live j es q).2 (live k fs r).2, s.frm, fun a u q => by rw [upd_ne (ne_of_none q (s.frM i ds e))]; exact s.frG a u q, fun j es q => s.frM j es (live j es q).2, s.tab.gl⟩, .lst (.inl (.inl upd_same)) (h2.mono le) z⟩
  · by_cases h : a = M i
    · subst h; rw [upd_same] at q; cases q; exact h1
    · rw [upd_ne h] at q; exact s.sub a u q
  · obtain ⟨ws, a, b, c⟩ := s.cell j es (live j es q).2
    exact ⟨ws, a, b.mono le, c⟩
  · rw [upd_ne (fun z => (live j es q).1 (s.inj j i es ds (live j es q).2 e z))]
    exact s.out j es (live j es q).2
/-- a list of ours is changed -/
theorem SS.put (s : SS K S Fr M G H μ) {i : Nat} {ds es : List D} {vs : List V} (e : μ[i]? = some (some ds)) (r : RpA K G vs es) (z : es.length ≤ sizeLine) : SS K S Fr M G (upd H (M i) (.lst vs)) (μ.set i (some es)) := by
  have hi : i < μ.length := (List.getElem?_eq_some_iff.mp e).1
  have live : ∀ j fs, (μ.set i (some es))[j]? = some (some fs) → (j = i ∧ fs = es) ∨ (j ≠ i ∧ μ[j]? = some (some fs)) := fun j fs q => by
    by_cases h : i = j
    · subst h
      rw [List.getElem?_set_self hi] at q
      cases q
      exact .inl ⟨rfl, rfl⟩
    · rw [List.getElem?_set_ne h] at q
      exact .inr ⟨fun z => h z.symm, q⟩
  have any : ∀ j fs, (μ.set i (some es))[j]? = some (some fs) → ∃ gs, μ[j]? = some (some gs) := fun j fs q => by
    rcases live j fs q with ⟨rfl, _⟩ | ⟨_, q⟩
    · exact ⟨_, e⟩
    · exact ⟨_, q⟩
  refine ⟨fun a u q => ?_, fun j fs q => ?_, fun j fs q => ?_, fun j k fs gs q r => ?_, fun a u q => by rw [upd_ne (ne_of_none q (s.frM i ds e))]; exact s.frm a u q, s.frG, fun j fs q => let ⟨gs, r⟩ := any j fs q; s.frM j gs r, s.tab.but fun b o q n => ?_⟩
  · rw [upd_ne (fun z => by rw [z, s.out i ds e] at q; cases q)]
    exact s.sub a u q
  · rcases live j fs q with ⟨rfl, rfl⟩ | ⟨h, q⟩
    · exact ⟨vs, upd_same, r, z⟩
    · obtain ⟨ws, a, b, c⟩ := s.cell j fs q
      exact ⟨ws, by rw [upd_ne (fun z => h (s.inj j i fs ds q e z))]; exact a, b, c⟩
  · obtain ⟨gs, q⟩ := any j fs q
    exact s.out j gs q
  · obtain ⟨_, q⟩ := any j fs q
    obtain ⟨_, r⟩ := any k gs r
    exact s.inj j k _ _ q r
  · obtain ⟨ws, a, _, _⟩ := s.cell i ds e
    rw [upd_ne (fun z => by rw [z, a] at q; exact n ws (Option.some.inj q).symm)]
    exact q
/-- a new list becomes one that is changed -/
theorem SS.thaw (s : SS K S Fr M G H μ) {p : Addr} {vs : List V} {ds : List D} (hp : H p = some (.lst vs)) (g : G p = none) (n : ∀ i ds, μ[i]? = some (some ds) → M i ≠ p) (fp : Fr p = none) (r : RpA K G vs ds) (z : ds.length ≤ sizeLine) :
    SS K S Fr (fun j => if j = μ.length then p else M j) G H (μ ++ [some ds]) := by
  have live : ∀ j es, (μ ++ [some ds])[j]? = some (some es) → (j = μ.length ∧ es = ds) ∨ (j < μ.length ∧ j ≠ μ.length ∧ μ[j]? = some (some es)) := fun j es q => by
    by_cases h : j < μ.length
    · rw [List.getElem?_append_left h] at q
      exact .inr ⟨h, Nat.ne_of_lt h, q⟩
    · rw [List.getElem?_append_right (by omega)] at q
      by_cases h2 : j - μ.length = 0
      · rw [h2] at q; simp at q; exact .inl ⟨by omega, q.symm⟩
      · have : ([some ds] : Store)[j - μ.length]? = none := List.getElem?_eq_none (by simp; omega)
        rw [this] at q; cases q
  refine ⟨s.sub, fun j es q => ?_, fun j es q => ?_, fun j k es fs q r' e => ?_, s.frm, s.frG, fun j es q => ?_, s.tab⟩
  · rcases live j es q with ⟨rfl, rfl⟩ | ⟨_, h, q⟩
    · exact ⟨vs, by simpa using hp, r, z⟩
    · simp only [h, if_false]; exact s.cell j es q
  · rcases live j es q with ⟨rfl, rfl⟩ | ⟨_, h, q⟩
    · simpa using g
    · simp only [h, if_false]; exact s.out j es q
  · rcases live j es q with ⟨e1, _⟩ | ⟨_, h, q1⟩ <;> rcases live k fs r' with ⟨e2, _⟩ | ⟨_, h', r1⟩
    · rw [e1, e2]
    · simp only [e1, if_true, h', if_false] at e; exact absurd e.symm (n k fs r1)
    · simp only [e2, if_true, h, if_false] at e; exact absurd e (n j es q1)
    · simp only [h, h', if_false] at e; exact s.inj j k es fs q1 r1 e
  · rcases live j es q with ⟨rfl, rfl⟩ | ⟨_, h, q1⟩
    · simpa using fp
    · simp only [h, if_false]; exact s.frM j es q1
theorem SS.take (s : SS K S Fr M G H μ) (n : Nat) : SS K S Fr M G H (μ.take n) := by
  have live : ∀ j es, (μ.take n)[j]? = some (some es) → μ[j]? = some (some es) := fun j es q => by
    rw [List.getElem?_take] at q
    split at q
    · exact q
    · cases q
  exact ⟨s.sub, fun j es q => s.cell j es (live j es q), fun j es q => s.out j es (live j es q), fun j k es fs q r => s.inj j k es fs (live j es q) (live k fs r), s.frm, s.frG, fun j es q => s.frM j es (live j es q), s.tab⟩
theorem SS.reM (s : SS K S Fr M G H μ) (h : ∀ i, i < μ.length → M' i = M i) : SS K S Fr M' G H μ := by
  have lt : ∀ j es, μ[j]? = some (some es) → j < μ.length := fun j es q => (List.getElem?_eq_some_iff.mp q).1
  refine ⟨s.sub, fun j es q => ?_, fun j es q => ?_, fun j k es fs q r e => ?_, s.frm, s.frG, fun j es q => by rw [h j (lt j es q)]; exact s.frM j es q, s.tab⟩
  · rw [h j (lt j es q)]; exact s.cell j es q
  · rw [h j (lt j es q)]; exact s.out j es q
  · rw [h j (lt j es q), h k (lt k fs r)] at e; exact s.inj j k es fs q r e
end Mu

namespace Mu
open PySem PySem.Spec
open PyProof.Rows L2
variable {X : Cx} {S : ST} {O : OF}

/-! ### operators by data -/
def rd2R (K : PySem.W.Frag) (S : ST) (O : OF) (f : D → D → Option D) : R2 := fun x y H Q => ∃ (Fr : Hp) (M : Nat → Addr) (G : Hp) (μ : Store) (w1 w2 : Val) (d1 d2 z : D), SS K S Fr M G H μ ∧ RV K S O M G x w1 ∧ RV K S O M G y w2 ∧ deref μ w1 = some d1 ∧ deref μ w2 = some d2 ∧ f d1 d2 = some z ∧
  ∀ v H' G', Le G G' → SS K S Fr M G' H' μ → Rp K G' v z → Q v H'
def rd1R (K : PySem.W.Frag) (S : ST) (O : OF) (f : D → Option D) : V → Hp → VK → Prop := fun x H Q => ∃ (Fr : Hp) (M : Nat → Addr) (G : Hp) (μ : Store) (w1 : Val) (d1 z : D), SS K S Fr M G H μ ∧ RV K S O M G x w1 ∧ deref μ w1 = some d1 ∧ f d1 = some z ∧
  ∀ v H' G', Le G G' → SS K S Fr M G' H' μ → Rp K G' v z → Q v H'
def BOp.op : BOp → Operator
  | .add => .Add
  | .sub => .Sub
  | .mul => .Mult
  | .fdiv => .FloorDiv
  | .mod => .Mod
def COp.op : COp → CmpOp
  | .eq => .Eq
  | .ne => .NotEq
  | .lt => .Lt
  | .le => .LtE
  | .gt => .Gt
  | .ge => .GtE
  | .inn => .In
  | .nin => .NotIn
theorem mulOk_C {i j : Int} (h : mulOk i j = true) : CMul i j := by
  simp only [mulOk, Bool.or_eq_true, Bool.and_eq_true, decide_eq_true_eq] at h
  exact h
theorem cat_lsx : OpR X (binaryOp .Add) (fun x y H Q => ∃ a b xs ys, x = .ref a ∧ y = .ref b ∧ LsX X.K H a xs ∧ LsX X.K H b ys ∧ xs.length + ys.length ≤ sizeLine ∧ ∀ p, H p = none → Q (.ref p) (upd H p (.lst (xs ++ ys)))) := by
  intro pins s σ H x y v u Q I rx ry h
  obtain ⟨a, b, xs, ys, rfl, rfl, ha, hb, hz, q⟩ := h
  cases rx
  cases ry
  obtain ⟨_, i1, n1, r1, e1⟩ := ha.obj I
  obtain ⟨_, i2, n2, r2, e2⟩ := hb.obj I
  have l1 := r1.length
  have l2 := r2.length
  refine PySem.P.add_list e1 e2 ?_ (by simp only [List.size_toArray]; omega)
  rw [show i1.toArray ++ i2.toArray = (i1 ++ i2).toArray by simp]
  exact ⟨.ref _, _, I.lnew (t' := s.toks) (r1.append r2) (by rw [List.length_append]; exact hz), rfl, q _ I.fresh⟩
theorem tuple_mul1 (l : Addr) (items : Array Value) (n : Nat) (dd : Option Addr) (sl : Array (Option Value)) (u : Tok) :
    Meets (Builtin.«tuple.__mul__» ⟨[.ref l, .int 1 u], []⟩) (fun _ R s => s.heap.get? l = some { cls := .type "tuple", dict := dd, data := .seq items n, slots := sl } ∧ R (.ok (.ret (Value.ref l))) s) :=
  .of_wp fun prog w A R s h => by
    obtain ⟨hp, g, d, tk, os⟩ := s
    obtain ⟨hl, h⟩ := h
    have f1 := AutoSeq1.idx_int
    have c1 : (items.isEmpty || (1 : Int) == 1) = true := by simp
    wp_walk using wpAny_loadPart' hl
    exact ⟨_, rfl, h⟩
theorem tuple_mul0 (l : Addr) (items : Array Value) (n : Nat) (dd : Option Addr) (sl : Array (Option Value)) (u : Tok) (hi : items.isEmpty = false) :
    Meets (Builtin.«tuple.__mul__» ⟨[.ref l, .int 0 u], []⟩) (fun _ R s => s.heap.get? l = some { cls := .type "tuple", dict := dd, data := .seq items n, slots := sl } ∧
      R (.ok (.ret (Value.ref s.heap.objs.size))) { s with heap := s.heap.push { cls := Value.type "tuple", data := Data.seq #[] }, toks := s.toks }) :=
  .of_wp fun prog w A R s h => by
    obtain ⟨hp, g, d, tk, os⟩ := s
    obtain ⟨hl, h⟩ := h
    have f1 := AutoSeq1.idx_int
    have c1 : (items.isEmpty || (0 : Int) == 1) = false := by rw [hi]; rfl
    wp_walk using wpAny_loadPart' hl
    exact ⟨_, rfl, h⟩
/-- a tuple, once or never -/
theorem op_rep01 : OpR X (binaryOp .Mult) (fun x y H Q => ∃ l k xs, x = .ref l ∧ y = .int k ∧ SqT X.K H l xs ∧ xs ≠ [] ∧ ((k = 1 ∧ Q (.ref l) H) ∨ (k = 0 ∧ ∀ p, H p = none → Q (.ref p) (upd H p (.tup []))))) := by
  intro pins s σ H x y v u Q I rx ry h
  obtain ⟨l, k, xs, rfl, rfl, hT, hne, h⟩ := h
  cases rx
  obtain ⟨t, rfl⟩ := ry
  obtain ⟨its, r, ⟨⟨cls, dd, data, sl⟩, ho, hc, n, hd⟩, hs⟩ := I.tuple hT
  simp only at hc hd
  subst hc hd
  have hle : its.length = xs.length := r.length.symm
  have hi : its.toArray.isEmpty = false := by
    cases its with
    | nil => exact absurd (List.eq_nil_of_length_eq_zero hle.symm) hne
    | cons a b => rfl
  refine wpAny_binaryOp_repeat_ref (T := "tuple") (U := "int") (by decide) ⟨_, ho, rfl⟩ (fun s' => typeIs_int s' k t) noFill_tuple_mul F.fills_int_mul F.slot_int_rmul repeat_tuple F.slot_int_index.lookup
    (call_meets F.slot_int_rmul (typeIs_int s k t) F.entry_int_rmul (F.args_int_rmul_2 _ _) (int_rmul_tuple k t l its.toArray n dd sl) ⟨ho, rfl, ⟨_, ho, rfl⟩, ?_⟩)
  rcases h with ⟨rfl, q⟩ | ⟨rfl, q⟩
  · exact call_meets F.slot_tuple_mul ⟨_, ho, rfl⟩ F.entry_tuple_mul (F.args_tuple_mul_2 _ _) (tuple_mul1 l its.toArray n dd sl t) ⟨ho, .ref l, H, I, rfl, q⟩
  · exact call_meets F.slot_tuple_mul ⟨_, ho, rfl⟩ F.entry_tuple_mul (F.args_tuple_mul_2 _ _) (tuple_mul0 l its.toArray n dd sl t hi) ⟨ho, .ref s.heap.objs.size, _, I.laid (t' := s.toks) (o := .tup []) (fun b ob q => Heap.get?_push_of_some _ q) (Nat.le_refl _) ⟨by simp, _, .nil, IsTup.new _ _⟩, rfl, q _ (I.hok.fresh (Nat.le_refl _))⟩
theorem op_bop (o : BOp) : OpR X (binaryOp o.op) (rd2R X.K S O (bopD o)) := by
  intro pins s σ H x y v u Q I rx ry h
  obtain ⟨Fr, M, G, μ, w1, w2, d1, d2, z, ss, r1, r2, e1, e2, e3, k⟩ := h
  have p1 := ss.rd r1 e1
  have p2 := ss.rd r2 e2
  cases o with
  | add =>
    cases d1 with
    | int i =>
      cases d2 with
      | int j =>
        simp only [bopD, Option.some.injEq] at e3
        subst e3
        cases p1
        cases p2
        exact op_add pins s σ H _ _ v u Q I rx ry ⟨i, j, rfl, rfl, k _ H G (Le.rfl' _) ss (.int _)⟩
      | _ => simp [bopD] at e3
    | str i =>
      cases d2 with
      | str j =>
        simp only [bopD] at e3
        split at e3
        · rename_i hz
          cases e3
          cases p1
          cases p2
          exact op_add_str pins s σ H _ _ v u Q I rx ry ⟨i, j, rfl, rfl, hz, k _ H G (Le.rfl' _) ss (.str _)⟩
        · cases e3
      | _ => simp [bopD] at e3
    | list xs =>
      cases d2 with
      | list ys =>
        simp only [bopD] at e3
        split at e3
        · rename_i hz
          cases e3
          obtain ⟨a, vs, rfl, h1, q1, z1⟩ := ss.rdL r1 e1
          obtain ⟨b, ws, rfl, h2, q2, z2⟩ := ss.rdL r2 e2
          refine cat_lsx pins s σ H _ _ v u Q I rx ry ⟨a, b, vs, ws, rfl, rfl, h1, h2, by rw [q1.length, q2.length]; exact hz, fun p hp => ?_⟩
          obtain ⟨G', le, s', r'⟩ := ss.lst hp (q1.append q2) (by rw [List.length_append]; exact hz)
          exact k _ _ G' le s' r'
        · cases e3
      | _ => simp [bopD] at e3
    | tuple xs =>
      cases d2 with
      | tuple ys =>
        simp only [bopD] at e3
        split at e3
        · rename_i hz
          cases e3
          obtain ⟨a, vs, rfl, h1, q1, z1⟩ := ss.rdT r1 e1
          obtain ⟨b, ws, rfl, h2, q2, z2⟩ := ss.rdT r2 e2
          have l1 := q1.length
          have l2 := q2.length
          refine op_catA pins s σ H _ _ v u Q I rx ry ⟨a, b, vs, ws, rfl, rfl, h1, h2, by omega, fun e => ?_, fun _ e => ?_, fun _ _ p hp => ?_⟩
          · subst e
            cases q1
            cases w2 with
            | d x2 =>
              simp only [deref, Option.some.injEq] at e2
              subst e2
              cases r2 with
              | d r2 => exact k _ H G (Le.rfl' _) ss r2
            | p i => unfold deref at e2; simp only at e2; split at e2 <;> cases e2
            | c _ => cases e2
            | o _ _ => cases e2
          · subst e
            cases q2
            rw [List.append_nil] at k
            cases w1 with
            | d x2 =>
              simp only [deref, Option.some.injEq] at e1
              subst e1
              cases r1 with
              | d r1 => exact k _ H G (Le.rfl' _) ss r1
            | p i => unfold deref at e1; simp only at e1; split at e1 <;> cases e1
            | c _ => cases e1
            | o _ _ => cases e1
          · obtain ⟨G', le, s', r'⟩ := ss.tup hp (q1.append q2) (by rw [List.length_append]; exact hz)
            exact k _ _ G' le s' r'
        · cases e3
      | _ => simp [bopD] at e3
    | _ => simp [bopD] at e3
  | sub =>
    cases d1 with
    | int i =>
      cases d2 with
      | int j =>
        simp only [bopD, Option.some.injEq] at e3
        subst e3
        cases p1
        cases p2
        exact op_sub pins s σ H _ _ v u Q I rx ry ⟨i, j, rfl, rfl, k _ H G (Le.rfl' _) ss (.int _)⟩
      | _ => simp [bopD] at e3
    | _ => simp [bopD] at e3
  | mul =>
    cases d1 with
    | int i =>
      cases d2 with
      | int j =>
        simp only [bopD] at e3
        split at e3
        · rename_i hm
          cases e3
          cases p1
          cases p2
          exact op_mul pins s σ H _ _ v u Q I rx ry ⟨i, j, rfl, rfl, mulOk_C hm, k _ H G (Le.rfl' _) ss (.int _)⟩
        · cases e3
      | _ => simp [bopD] at e3
    | tuple xs =>
      cases d2 with
      | int n =>
        simp only [bopD] at e3
        split at e3
        · rename_i hm
          cases e3
          obtain ⟨hm0, hm1, hm2, hm3⟩ := hm
          obtain ⟨a, vs, rfl, h1, q1, z1⟩ := ss.rdT r1 e1
          cases p2
          have lv := q1.length
          have hne : vs ≠ [] := fun z => by
            subst z
            cases xs with
            | nil => cases hm0
            | cons _ _ => simp at lv
          have back : ∀ {v1}, v1 = V.ref a → Rp X.K G v1 (.tuple xs) := fun {v1} ev => by
            subst ev
            cases w1 with
            | d x2 =>
              simp only [deref, Option.some.injEq] at e1
              subst e1
              cases r1 with
              | d r1 => exact r1
            | p i => unfold deref at e1; simp only at e1; split at e1 <;> cases e1
            | c _ => cases e1
            | o _ _ => cases e1
          by_cases n2 : 2 ≤ n
          · refine op_repT pins s σ H _ _ v u Q I rx ry ⟨a, n, vs, rfl, rfl, h1, hne, n2, hm2, by rw [lv]; exact hm3, fun p hp => ?_⟩
            have zz : (List.replicate n.toNat xs).flatten.length ≤ sizeLine := by
              rw [PyProof.Rows.lm_len_rep_flat, sizeLine_eq]
              have : n.toNat * xs.length ≤ 1000 * 1000 := Nat.mul_le_mul (by omega) hm3
              omega
            obtain ⟨G', le, s', r'⟩ := ss.tup hp (q1.rep n.toNat) zz
            exact k _ _ G' le s' r'
          · have hn : n = 1 ∨ n = 0 := by omega
            refine op_rep01 pins s σ H _ _ v u Q I rx ry ⟨a, n, vs, rfl, rfl, h1, hne, ?_⟩
            rcases hn with rfl | rfl
            · refine .inl ⟨rfl, ?_⟩
              have e : (List.replicate (1 : Int).toNat xs).flatten = xs := by simp
              rw [e] at k
              exact k _ H G (Le.rfl' _) ss (back rfl)
            · refine .inr ⟨rfl, fun p hp => ?_⟩
              have e : (List.replicate (0 : Int).toNat xs).flatten = [] := by simp
              rw [e] at k
              obtain ⟨G', le, s', r'⟩ := ss.tup (xs := []) hp .nil (by simp)
              exact k _ _ G' le s' r'
        · cases e3
      | _ => simp [bopD] at e3
    | _ => simp [bopD] at e3
  | fdiv =>
    cases d1 with
    | int i =>
      cases d2 with
      | int j =>
        simp only [bopD] at e3
        split at e3
        · rename_i hm
          cases e3
          cases p1
          cases p2
          exact op_fdiv pins s σ H _ _ v u Q I rx ry ⟨i, j, rfl, rfl, hm, k _ H G (Le.rfl' _) ss (.int _)⟩
        · cases e3
      | _ => simp [bopD] at e3
    | _ => simp [bopD] at e3
  | mod =>
    cases d1 with
    | int i =>
      cases d2 with
      | int j =>
        simp only [bopD] at e3
        split at e3
        · rename_i hm
          cases e3
          cases p1
          cases p2
          exact op_mod pins s σ H _ _ v u Q I rx ry ⟨i, j, rfl, rfl, hm, k _ H G (Le.rfl' _) ss (.int _)⟩
        · cases e3
      | _ => simp [bopD] at e3
    | _ => simp [bopD] at e3

theorem room_in' {A : Around} {d : D} {ys : List D} (h : SeqAt.shaped d = true) (hu : A.units + 65 < cLine) : A.units + 1 + min (PyData.depthAll ys) d.depth < cLine := by
  have h1 := SeqAt.depth_of_shaped h
  omega
theorem shp_dp {H : Hp} {K : PySem.W.Frag} {x : D} {v : V} (h : shp x = true) (r : Rp K H v x) : Dp K H v x := r.dp (SeqAt.canLay_of_shaped h)
theorem lexAt_shift {e r : Nat → Bool} {z : Bool} : ∀ (k i : Nat), Ob.lexAt e r z (i + 1) k = Ob.lexAt (fun j => e (j + 1)) (fun j => r (j + 1)) z i k
  | 0, _ => rfl
  | k + 1, i => by rw [Ob.lexAt_succ, Ob.lexAt_succ, lexAt_shift k (i + 1)]
theorem lexAt_ge : ∀ (xs ys : List Int), Ob.lexAt (fun j => decide (xs.getD j 0 = ys.getD j 0)) (fun j => decide (ys.getD j 0 ≤ xs.getD j 0)) (decide (xs.length ≥ ys.length)) 0 (min xs.length ys.length) = geI xs ys
  | [], [] => rfl
  | _ :: _, [] => by simp [Ob.lexAt, geI]
  | [], _ :: _ => by simp [Ob.lexAt, geI]
  | x :: xs, y :: ys => by
    have ih := lexAt_ge xs ys
    have e1 : min (x :: xs).length (y :: ys).length = min xs.length ys.length + 1 := by simp only [List.length_cons]; omega
    have e2 : decide ((x :: xs).length ≥ (y :: ys).length) = decide (xs.length ≥ ys.length) := by
      simp only [List.length_cons, ge_iff_le, Nat.add_le_add_iff_right]
    rw [e1, e2, Ob.lexAt_succ, lexAt_shift]
    simp only [List.getD_cons_succ, List.getD_cons_zero]
    rw [ih]
    simp only [geI, decide_eq_true_eq]
theorem RpA.ints2 {K : PySem.W.Frag} {H : Hp} : ∀ {ds : List D} {vs : List V} {ns : List Int}, intsD ds = some ns → RpA K H vs ds → vs = ns.map V.int
  | [], _, ns, h, r => by cases r; cases h; rfl
  | d :: ds, _, ns, h, r => by
    cases r with
    | cons p t =>
      cases d <;> simp only [intsD] at h <;> first
        | (obtain ⟨ms, e, rfl⟩ := Option.map_eq_some_iff.mp h
           cases p
           rw [RpA.ints2 e t]; rfl)
        | cases h
def rLtD (K : PySem.W.Frag) : R2 := fun x y H Q => ∃ d e, Dp K H x d ∧ Dp K H y e ∧ SeqAt.shaped d = true ∧ SeqAt.shaped e = true ∧ PySem.W.alike d e = true ∧ d ≠ .none ∧ Q (.bl (PySem.W.dataLt d e)) H
theorem op_ltD (hu : X.A.units + 65 < cLine) : OpR X (compareOp .Lt) (rLtD X.K) := by
  intro pins s σ H x y v u Q I rx ry h
  obtain ⟨d, e, hd, he, sd, se, al, hn, q⟩ := h
  obtain ⟨as, r1⟩ := Dp.reads I d x v hd rx
  obtain ⟨bs, r2⟩ := Dp.reads I e y u he ry
  have := SeqAt.depth_of_shaped sd
  exact PySem.W.lt_data r1 r2 al hn (by omega) ⟨.bl _, H, I, rfl, q⟩
def rGtD (K : PySem.W.Frag) : R2 := fun x y H Q => ∃ d e, Dp K H x d ∧ Dp K H y e ∧ SeqAt.shaped d = true ∧ SeqAt.shaped e = true ∧ PySem.W.alike d e = true ∧ d ≠ .none ∧ Q (.bl (PySem.W.dataLt e d)) H
theorem op_gtD (hu : X.A.units + 65 < cLine) : OpR X (compareOp .Gt) (rGtD X.K) := by
  intro pins s σ H x y v u Q I rx ry h
  obtain ⟨d, e, hd, he, sd, se, al, hn, q⟩ := h
  obtain ⟨as, r1⟩ := Dp.reads I d x v hd rx
  obtain ⟨bs, r2⟩ := Dp.reads I e y u he ry
  have := SeqAt.depth_of_shaped sd
  exact PySem.W.gt_data r1 r2 al hn (by omega) ⟨.bl _, H, I, rfl, q⟩
theorem ltD_of {x y : D} {b : Bool} {z : D} (h : ltD x y b = some z) : shp x = true ∧ shp y = true ∧ PySem.W.alike x y = true ∧ z = .bool b := by
  unfold ltD at h
  split at h
  · rename_i hs
    cases h
    exact ⟨hs.1, hs.2.1, hs.2.2, rfl⟩
  · cases h
def rGeT (K : PySem.W.Frag) : R2 := fun x y H Q => ∃ (a b : Addr) (xs ys : List Int), x = .ref a ∧ y = .ref b ∧ SqT K H a (xs.map V.int) ∧ SqT K H b (ys.map V.int) ∧ Q (.bl (geI xs ys)) H
theorem op_geT (hu : X.A.units < cLine) : OpR X (compareOp .GtE) (rGeT X.K) := by
  rintro pins s σ H x y v u Q I rx ry ⟨a, b, xs, ys, rfl, rfl, ha, hb, q⟩
  cases rx
  cases ry
  obtain ⟨is1, q1, p1, _⟩ := I.tuple ha
  obtain ⟨is2, q2, p2, _⟩ := I.tuple hb
  have k1 : IntsAre is1 xs := Vals.ints q1
  have k2 : IntsAre is2 ys := Vals.ints q2
  have n1 : is1.toArray.size = xs.length := by rw [List.size_toArray, k1.length]
  have n2 : is2.toArray.size = ys.length := by rw [List.size_toArray, k2.length]
  have g1 : ∀ j (h : j < is1.toArray.size), ∃ t, is1.toArray[j] = .int (xs.getD j 0) t := fun j h => PyProof.Rows.IntsAre.int_at k1 _ _ (by rw [n1] at h; simp [h])
  have g2 : ∀ j (h : j < is2.toArray.size), ∃ t, is2.toArray[j] = .int (ys.getD j 0) t := fun j h => PyProof.Rows.IntsAre.int_at k2 _ _ (by rw [n2] at h; simp [h])
  have c := Ob.RcOp.tuples_ge (A := X.A) (s := s) (e := fun j => decide (xs.getD j 0 = ys.getD j 0)) (r := fun j => decide (ys.getD j 0 ≤ xs.getD j 0)) p1 p2 hu (fun j h h' => by
    obtain ⟨t, e⟩ := g1 j h
    obtain ⟨t', e'⟩ := g2 j h'
    rw [e, e', show decide (xs.getD j 0 = ys.getD j 0) = (xs.getD j 0 == ys.getD j 0) by rw [Bool.eq_iff_iff, decide_eq_true_iff, beq_iff_eq]]
    exact SeqAt.EqAt.int_int _ _ _ _) (fun j h h' _ => by
    obtain ⟨t, e⟩ := g1 j h
    obtain ⟨t', e'⟩ := g2 j h'
    rw [e, e']
    exact Ob.RcOp.ge_int _ _ _ _)
  rw [n1, n2, lexAt_ge] at c
  exact (c X.prog X.w X.xe (EP X pins σ Q) ⟨.bl _, H, I, rfl, q⟩ : wpAny (model X.prog X.w) X.A (compareOp .GtE (.ref a) (.ref b)) (EP X pins σ Q) X.xe s)
theorem op_cmp (hu : X.A.units + 65 < cLine) (o : COp) : OpR X (compareOp o.op) (rd2R X.K S O (cmpD o)) := by
  intro pins s σ H x y v u Q I rx ry h
  obtain ⟨Fr, M, G, μ, w1, w2, d1, d2, z, ss, r1, r2, e1, e2, e3, k⟩ := h
  have p1 := ss.rd r1 e1
  have p2 := ss.rd r2 e2
  have hu' : X.A.units + 64 < cLine := by omega
  have ii : ∀ {p : COp} {g : Int → Int → Bool}, (∀ i j, cmpD p (.int i) (.int j) = some (.bool (g i j))) → True := fun _ => trivial
  cases o with
  | eq =>
    simp only [cmpD] at e3
    obtain ⟨b, e4, rfl⟩ := Option.map_eq_some_iff.mp e3
    unfold eqD at e4
    split at e4
    · rename_i b' hb
      cases e4
      unfold strEq at hb
      split at hb
      · cases hb
        cases p1
        cases p2
        refine op_eq pins s σ H _ _ v u Q I rx ry ⟨rfl, ?_⟩
        have q := k _ H G (Le.rfl' _) ss (.bl _)
        simpa using q
      · cases hb
    · split at e4
      · rename_i hs
        cases e4
        exact op_eqD hu' pins s σ H _ _ v u Q I rx ry ⟨_, _, shp_dp hs.1 p1, shp_dp hs.2 p2, hs.1, hs.2, k _ H G (Le.rfl' _) ss (.bl _)⟩
      · cases e4
  | ne =>
    simp only [cmpD] at e3
    obtain ⟨b, e4, rfl⟩ := Option.map_eq_some_iff.mp e3
    unfold eqD at e4
    split at e4
    · rename_i b' hb
      cases e4
      unfold strEq at hb
      split at hb
      · cases hb
        cases p1
        cases p2
        refine op_ne pins s σ H _ _ v u Q I rx ry ⟨rfl, ?_⟩
        have q := k _ H G (Le.rfl' _) ss (.bl _)
        simpa using q
      · cases hb
    · split at e4
      · rename_i hs
        cases e4
        exact op_neD hu' pins s σ H _ _ v u Q I rx ry ⟨_, _, shp_dp hs.1 p1, shp_dp hs.2 p2, hs.1, hs.2, k _ H G (Le.rfl' _) ss (.bl _)⟩
      · cases e4
  | lt =>
    cases d1 with
    | int i =>
      cases d2 with
      | int j =>
        simp only [cmpD, Option.some.injEq] at e3
        subst e3
        cases p1
        cases p2
        exact op_lt pins s σ H _ _ v u Q I rx ry ⟨i, j, rfl, rfl, k _ H G (Le.rfl' _) ss (.bl _)⟩
      | _ => simp [cmpD] at e3
    | tuple xs =>
      cases d2 with
      | tuple ys =>
        simp only [cmpD] at e3
        obtain ⟨h1, h2, h3, rfl⟩ := ltD_of e3
        exact op_ltD hu pins s σ H _ _ v u Q I rx ry ⟨_, _, shp_dp h1 p1, shp_dp h2 p2, h1, h2, h3, (fun z => nomatch z), k _ H G (Le.rfl' _) ss (.bl _)⟩
      | _ => simp [cmpD] at e3
    | _ => simp [cmpD] at e3
  | le =>
    cases d1 with
    | int i =>
      cases d2 with
      | int j =>
        simp only [cmpD, Option.some.injEq] at e3
        subst e3
        cases p1
        cases p2
        exact op_le pins s σ H _ _ v u Q I rx ry ⟨i, j, rfl, rfl, k _ H G (Le.rfl' _) ss (.bl _)⟩
      | _ => simp [cmpD] at e3
    | _ => simp [cmpD] at e3
  | gt =>
    cases d1 with
    | int i =>
      cases d2 with
      | int j =>
        simp only [cmpD, Option.some.injEq] at e3
        subst e3
        cases p1
        cases p2
        exact op_gt pins s σ H _ _ v u Q I rx ry ⟨i, j, rfl, rfl, k _ H G (Le.rfl' _) ss (.bl _)⟩
      | _ => simp [cmpD] at e3
    | tuple xs =>
      cases d2 with
      | tuple ys =>
        simp only [cmpD] at e3
        obtain ⟨h1, h2, h3, rfl⟩ := ltD_of e3
        exact op_gtD hu pins s σ H _ _ v u Q I rx ry ⟨_, _, shp_dp h1 p1, shp_dp h2 p2, h1, h2, h3, (fun z => nomatch z), k _ H G (Le.rfl' _) ss (.bl _)⟩
      | _ => simp [cmpD] at e3
    | _ => simp [cmpD] at e3
  | ge =>
    cases d1 with
    | int i =>
      cases d2 with
      | int j =>
        simp only [cmpD, Option.some.injEq] at e3
        subst e3
        cases p1
        cases p2
        exact op_ge pins s σ H _ _ v u Q I rx ry ⟨i, j, rfl, rfl, k _ H G (Le.rfl' _) ss (.bl _)⟩
      | _ => simp [cmpD] at e3
    | tuple xs =>
      cases d2 with
      | tuple ys =>
        simp only [cmpD] at e3
        obtain ⟨ns, f1, e3⟩ := Option.bind_eq_some_iff.mp e3
        obtain ⟨ms, f2, rfl⟩ := Option.map_eq_some_iff.mp e3
        cases p1 with
        | tup s1 t1 z1 =>
          cases p2 with
          | tup s2 t2 z2 =>
            rw [RpA.ints2 f1 t1] at s1
            rw [RpA.ints2 f2 t2] at s2
            exact op_geT (by omega) pins s σ H _ _ v u Q I rx ry ⟨_, _, _, _, rfl, rfl, s1, s2, k _ H G (Le.rfl' _) ss (.bl _)⟩
      | _ => simp [cmpD] at e3
    | _ => simp [cmpD] at e3
  | inn =>
    cases d2 with
    | list ys =>
      simp only [cmpD] at e3
      split at e3
      · rename_i hs
        cases e3
        exact op_inD hu pins s σ H _ _ v u Q I rx ry ⟨_, _, shp_dp hs.1 p1, shp_dp hs.2 p2, hs.1, hs.2, k _ H G (Le.rfl' _) ss (.bl _)⟩
      · cases e3
    | tuple ys =>
      simp only [cmpD] at e3
      split at e3
      · rename_i hs
        cases e3
        obtain ⟨as, q1⟩ := Dp.reads I _ _ _ (shp_dp hs.1 p1) rx
        obtain ⟨bs, q2⟩ := Dp.reads I _ _ _ (shp_dp hs.2 p2) ry
        refine SeqAt.in_tuple_reads q2 q1 ?_ (SeqAt.canLay_of_shaped hs.1) (room_in' hs.1 hu) ⟨.bl _, H, I, rfl, k _ H G (Le.rfl' _) ss (.bl _)⟩
        have c := SeqAt.canLay_of_shaped hs.2
        simpa [PyData.canLay0] using c
      · cases e3
    | _ => simp [cmpD] at e3
  | nin =>
    cases d2 with
    | list ys =>
      simp only [cmpD] at e3
      split at e3
      · rename_i hs
        cases e3
        exact op_notInD hu pins s σ H _ _ v u Q I rx ry ⟨_, _, shp_dp hs.1 p1, shp_dp hs.2 p2, hs.1, hs.2, k _ H G (Le.rfl' _) ss (.bl _)⟩
      · cases e3
    | tuple ys =>
      simp only [cmpD] at e3
      split at e3
      · rename_i hs
        cases e3
        obtain ⟨as, q1⟩ := Dp.reads I _ _ _ (shp_dp hs.1 p1) rx
        obtain ⟨bs, q2⟩ := Dp.reads I _ _ _ (shp_dp hs.2 p2) ry
        refine SeqAt.notIn_tuple_reads q2 q1 ?_ (SeqAt.canLay_of_shaped hs.1) (room_in' hs.1 hu) ⟨.bl _, H, I, rfl, k _ H G (Le.rfl' _) ss (.bl _)⟩
        have c := SeqAt.canLay_of_shaped hs.2
        simpa [PyData.canLay0] using c
      · cases e3
    | _ => simp [cmpD] at e3

/-! ### truth -/
theorem truV_of {K : PySem.W.Frag} {Fr : Hp} {M : Nat → Addr} {G H : Hp} {μ : Store} {v : V} {w : Val} {x : D} {b : Bool} (ss : SS K S Fr M G H μ) (r : RV K S O M G v w) (e : deref μ w = some x) (h : truD x = some b) : TruV K v H b := by
  have p := ss.rd r e
  cases x with
  | none => cases p; simp only [truD, Option.some.injEq] at h; exact h.symm
  | bool c => cases p; simp only [truD, Option.some.injEq] at h; exact h.symm
  | int i => cases p; simp only [truD, Option.some.injEq] at h; exact h.symm
  | str z =>
    cases p
    simp only [truD] at h
    split at h
    · rename_i hz; cases h; exact ⟨hz, rfl⟩
    · cases h
  | list xs =>
    cases p with
    | lst p q _ =>
      simp only [truD, Option.some.injEq] at h
      refine .inl ⟨_, p.sql, ?_⟩
      subst h
      cases q <;> rfl
  | tuple xs =>
    cases p with
    | tup p q _ =>
      simp only [truD, Option.some.injEq] at h
      refine .inr (.inl ⟨_, p, ?_⟩)
      subst h
      cases q <;> rfl
  | dict _ => simp [truD] at h

/-! ### subscripts, slices -/
theorem ixN_eq {α β : Type} {xs : List α} {ys : List β} (h : xs.length = ys.length) (i : Int) : ixN xs.length i = ixN ys.length i := by rw [h]
theorem atI_rp {K : PySem.W.Frag} {G : Hp} {vs : List V} {xs : List D} {i : Int} {z : D} (r : RpA K G vs xs) (h : atI xs i = some z) : ∃ v, atI vs i = some v ∧ Rp K G v z := by
  unfold atI at h ⊢
  rw [r.length]
  cases e : ixN xs.length i with
  | none => rw [e] at h; cases h
  | some j =>
    rw [e] at h
    exact r.get h
theorem op_idx : IxR X (rd2R X.K S O idxD) := by
  intro value slice pins s σ H x y v u Q I rx ry h hs
  obtain ⟨Fr, M, G, μ, w1, w2, d1, d2, z, ss, r1, r2, e1, e2, e3, k⟩ := h
  have p1 := ss.rd r1 e1
  have p2 := ss.rd r2 e2
  cases d2 with
  | int i =>
    cases p2
    cases d1 with
    | list xs =>
      obtain ⟨a, vs, rfl, h1, q1, z1⟩ := ss.rdL r1 e1
      obtain ⟨w, h2, q2⟩ := atI_rp q1 (show atI xs i = some z from e3)
      exact ix_list value slice pins s σ H _ _ v u Q I rx ry ⟨a, vs, i, w, rfl, rfl, h1.sql, h2, k _ H G (Le.rfl' _) ss q2⟩ hs
    | tuple xs =>
      obtain ⟨a, vs, rfl, h1, q1, z1⟩ := ss.rdT r1 e1
      obtain ⟨w, h2, q2⟩ := atI_rp q1 (show atI xs i = some z from e3)
      exact ix_tup value slice pins s σ H _ _ v u Q I rx ry ⟨a, vs, i, w, rfl, rfl, h1, h2, k _ H G (Le.rfl' _) ss q2⟩ hs
    | str c =>
      simp only [idxD] at e3
      split at e3
      · rename_i hz
        obtain ⟨n, h1, rfl⟩ := Option.map_eq_some_iff.mp e3
        cases p1
        exact ix_str value slice pins s σ H _ _ v u Q I rx ry ⟨c, i, n, rfl, rfl, hz, h1, k _ H G (Le.rfl' _) ss (.str _)⟩ hs
      · cases e3
    | _ => simp [idxD] at e3
  | _ => cases d1 <;> simp [idxD] at e3
def rSli (K : PySem.W.Frag) (S : ST) (O : OF) : V → Option Int → Option Int → Hp → VK → Prop := fun x lo hi H Q => ∃ (Fr : Hp) (M : Nat → Addr) (G : Hp) (μ : Store) (w1 : Val) (d1 z : D), SS K S Fr M G H μ ∧ RV K S O M G x w1 ∧ deref μ w1 = some d1 ∧ sliD d1 lo hi = some z ∧
  ∀ v H' G', Le G G' → SS K S Fr M G' H' μ → Rp K G' v z → Q v H'
theorem cut_rp {K : PySem.W.Frag} {G : Hp} {vs : List V} {xs : List D} (r : RpA K G vs xs) (lo hi : Option Int) : RpA K G (cutV vs lo hi) (cutD xs lo hi) := by
  unfold cutV cutD
  rw [r.length]
  exact (r.drop _).take _
theorem cut_len (xs : List D) (lo hi : Option Int) (z : xs.length ≤ sizeLine) : (cutD xs lo hi).length ≤ sizeLine := by
  unfold cutD
  rw [List.length_take, List.length_drop]
  omega
theorem op_sli : SlR X (rSli X.K S O) := by
  intro pins s σ H x v vl vu lo hi sl Q I rx hs pl pu h
  obtain ⟨Fr, M, G, μ, w1, d1, z, ss, r1, e1, e3, k⟩ := h
  cases d1 with
  | list xs =>
    simp only [sliD, Option.some.injEq] at e3
    subst e3
    obtain ⟨a, vs, rfl, h1, q1, z1⟩ := ss.rdL r1 e1
    refine sl_list pins s σ H _ v vl vu lo hi sl Q I rx hs pl pu ⟨a, vs, rfl, h1.sql, fun p hp => ?_⟩
    obtain ⟨G', le, s', r'⟩ := ss.lst hp (cut_rp q1 lo hi) (cut_len xs lo hi z1)
    exact k _ _ G' le s' r'
  | tuple xs =>
    simp only [sliD, Option.some.injEq] at e3
    subst e3
    have r0 := r1
    obtain ⟨a, vs, rfl, h1, q1, z1⟩ := ss.rdT r1 e1
    refine sl_tupA pins s σ H _ v vl vu lo hi sl Q I rx hs pl pu ⟨a, vs, rfl, h1, fun hw => ?_, fun _ p hp => ?_⟩
    · have ec : cutD xs lo hi = xs := by
        unfold cutD
        rw [← q1.length, hw.1, hw.2, List.drop_zero, Nat.sub_zero, q1.length, List.take_length]
      rw [ec] at k
      cases w1 with
      | d x2 =>
        simp only [deref, Option.some.injEq] at e1
        subst e1
        cases r0 with
        | d r0 => exact k _ H G (Le.rfl' _) ss r0
      | p i => unfold deref at e1; simp only at e1; split at e1 <;> cases e1
      | c _ => cases e1
      | o _ _ => cases e1
    · obtain ⟨G', le, s', r'⟩ := ss.tup hp (cut_rp q1 lo hi) (cut_len xs lo hi z1)
      exact k _ _ G' le s' r'
  | str c =>
    simp only [sliD] at e3
    have p1 := ss.rd r1 e1
    split at e3
    · rename_i hz
      cases e3
      cases p1
      exact sl_str pins s σ H _ v vl vu lo hi sl Q I rx hs pl pu ⟨c, rfl, hz, k _ H G (Le.rfl' _) ss (.str _)⟩
    · cases e3
  | _ => simp [sliD] at e3

/-! ### kinds -/
def Cls.ty : Cls → String
  | .int => "int"
  | .bool => "bool"
  | .str => "str"
  | .tuple => "tuple"
  | .list => "list"
  | .dict => "dict"
inductive Kd | none | bool | int | str | list | tuple | dict
def Kd.ty : Kd → String
  | .none => "NoneType"
  | .bool => "bool"
  | .int => "int"
  | .str => "str"
  | .list => "list"
  | .tuple => "tuple"
  | .dict => "dict"
def kdD : D → Kd
  | .none => .none
  | .bool _ => .bool
  | .int _ => .int
  | .str _ => .str
  | .list _ => .list
  | .tuple _ => .tuple
  | .dict _ => .dict
def isiK : Kd → Cls → Bool
  | .int, .int => true
  | .bool, .int => true
  | .bool, .bool => true
  | .str, .str => true
  | .tuple, .tuple => true
  | .list, .list => true
  | .dict, .dict => true
  | _, _ => false
def tyD (x : D) : String := (kdD x).ty
theorem kit_all (k : Kd) (c : Cls) : kitB k.ty c.ty = some (isiK k c) := by
  cases k <;> cases c <;> decide +kernel
theorem isi_kit (x : D) (c : Cls) : kitB (tyD x) c.ty = some (isiD x c) := by
  rw [show isiD x c = isiK (kdD x) c by cases x <;> cases c <;> rfl]
  exact kit_all _ _
theorem tyX_of {K : PySem.W.Frag} {H : Hp} {v : V} {x : D} (r : Rp K H v x) : TyX K H v (.type (tyD x)) := by
  cases r with
  | non => exact .base .non
  | bl b => exact .base (.bl b)
  | int i => exact .base (.int i)
  | str z => exact .base (.str z)
  | lst h _ _ =>
    rcases h with (h | ⟨o, h⟩) | ⟨its, n, h, _, _⟩
    · exact .base (.lst h)
    · exact .base (.frz h)
    · exact .kList h rfl
  | tup h _ _ =>
    rcases h with (h | ⟨o, h⟩) | ⟨o, its, n, h, hc, _⟩
    · exact .base (.tup h)
    · exact .fTuple h
    · exact .kTuple h hc
  | dct h => exact .base (.dK h)
theorem call_isiD (c : Cls) : CallR X (.builtin "isinstance") (fun vs H Q => ∃ x d, vs = [x, .ty c.ty] ∧ Rp X.K H x d ∧ Q (.bl (isiD d c)) H) := by
  intro pins s σ H vs us Q I r h
  obtain ⟨x, d, rfl, p, q⟩ := h
  exact call_isi pins s σ H _ us Q I r ⟨x, .ty c.ty, _, _, _, rfl, .ty _, tyX_of p, kit_ty (isi_kit d c), q⟩
end Mu

namespace Mu
open PySem PySem.Spec PyProof.Rows L2 HT
/-! ### t += u, for tuples -/
theorem noI_tuple_add : typeLookup (.type "tuple") (dunderI "add") = pure none := by rw [typeLookup_type, builtinLookup_eq_fast]; kernel_rfl
section
variable {prog : Program} {w : World} {A : Around} {E : Value → Shared → Prop} {s : Shared}
theorem icat_tup {t b : Addr} {vs ws : List Value} {Q : Value → Shared → Prop} (ht : IsTup s.heap t vs.toArray) (hb : IsTup s.heap b ws.toArray) (h0 : vs = [] → Q (.ref b) s)
    (h1 : vs ≠ [] → ws = [] → Q (.ref t) s) (h2 : vs ≠ [] → ws ≠ [] → Q (.ref s.heap.objs.size) { s with heap := s.heap.push { cls := .type "tuple", data := .seq (vs ++ ws).toArray } })
    (hsz : vs.length + ws.length ≤ sizeLine) : wpAny (model prog w) A (inplaceOp .Add (.ref t) (.ref b)) Q E s := by
  obtain ⟨⟨cls, dd, data, sl⟩, ho, hc, n, hd⟩ := id ht
  obtain ⟨⟨cls2, dd2, data2, sl2⟩, ho2, hc2, n2, hd2⟩ := id hb
  simp only at hc hd hc2 hd2
  subst hc hd hc2 hd2
  have e : vs.toArray ++ ws.toArray = (vs ++ ws).toArray := by simp
  refine wpAny_inplaceOp_concat (T := "tuple") ⟨_, ho, rfl⟩ ⟨_, ho2, rfl⟩ noI_tuple_add noFill_tuple_add seq_tuple_add ?_
  by_cases hv : vs = []
  · exact call_meets PySem.F.slot_tuple_add ⟨_, ho, rfl⟩ PySem.F.entry_tuple_add (PySem.F.args_tuple_add_2 _ _)
      (tuple_addW0 t b vs.toArray ws.toArray n n2 dd dd2 sl sl2 (by simp [hv])) ⟨ho, ho2, h0 hv⟩
  · by_cases hw : ws = []
    · exact call_meets PySem.F.slot_tuple_add ⟨_, ho, rfl⟩ PySem.F.entry_tuple_add (PySem.F.args_tuple_add_2 _ _)
        (tuple_addW1 t b vs.toArray ws.toArray n n2 dd dd2 sl sl2 (by simpa using hv) (by simp [hw])) ⟨ho, ho2, h1 hv hw⟩
    · refine call_meets PySem.F.slot_tuple_add ⟨_, ho, rfl⟩ PySem.F.entry_tuple_add (PySem.F.args_tuple_add_2 _ _)
        (tuple_addW2 t b vs.toArray ws.toArray n n2 dd dd2 sl sl2 (by simpa using hv) (by simpa using hw) (by rw [List.size_toArray, List.size_toArray]; exact hsz)) ⟨ho, ho2, ?_⟩
      rw [e]
      exact h2 hv hw
end
variable {X : Cx}
theorem iop_catA : OpR X (inplaceOp .Add) (rCatA X.K) := by
  intro pins s σ H x y v u Q I rx ry h
  obtain ⟨a, b, xs, ys, rfl, rfl, ha, hb, hz, q0, q1, q2⟩ := h
  cases rx
  cases ry
  obtain ⟨its, r1, p1, _⟩ := I.tuple ha
  obtain ⟨its2, r2, p2, _⟩ := I.tuple hb
  refine icat_tup p1 p2 (fun z => ⟨.ref b, H, I, rfl, q0 (r1.nil_iff.mp z)⟩) (fun z' z => ⟨.ref a, H, I, rfl, q1 (fun k => z' (r1.nil_iff.mpr k)) (r2.nil_iff.mp z)⟩) (fun z' z => ?_) (by rw [← r1.length, ← r2.length]; exact hz)
  refine ⟨.ref s.heap.objs.size, _, I.laid (t' := s.toks) (o := .tup (xs ++ ys)) (fun b ob q => Heap.get?_push_of_some _ q) (Nat.le_refl _) ?_, rfl, q2 (fun k => z' (r1.nil_iff.mpr k)) (fun k => z (r2.nil_iff.mpr k)) _ (I.hok.fresh (Nat.le_refl _))⟩
  exact ⟨by rw [List.length_append]; exact hz, _, r1.append r2, IsTup.new _ _⟩
end Mu

namespace Mu
open PySem PySem.Spec
open PyProof.Rows L2

/-! ### the text and the small language: is this text that meaning's? -/
def BI.nm : BI → String
  | .len => "len"
  | .tup => "tuple"
  | .lst => "list"
  | .int => "int"
  | .bool => "bool"
  | .all => "all"
  | .any => "any"
  | .max => "max"
  | .min => "min"
  | .sum => "sum"
  | .repr => "repr"
def BI.fv : BI → Value
  | .tup => .type "tuple"
  | .lst => .type "list"
  | .int => .type "int"
  | .bool => .type "bool"
  | b => .builtin b.nm
def bltNames : List String := ["len", "tuple", "list", "int", "bool", "all", "any", "max", "min", "sum", "repr", "isinstance", "str", "dict", "range", "sorted", "set", "reversed", "enumerate", "zip"]
/-- of the functions that a def makes: does it make some? have its captured names cells of its own? the names that its code objects bear, the head of them; the texts; the captured names -/
structure MkI where
  top : Bool
  nm : Nat → Nat → Str
  q : Str
  chk : Nat → CTxt → Bool
  fr : Nat → List Str
structure Sc where
  N : List Str
  fns : List Str
  cons : List Str
  exs : List Str
  m : MkI
def Sc.lo (c : Sc) : Sc := { c with m := { c.m with top := false } }
/-- parameters without defaults, without notes -/
def plainPs : Arguments → Bool
  | ⟨[], as, none, [], [], none, []⟩ => as.all fun a => a.annotation.isNone
  | _ => false
/-- the captured names of a function that is made here -/
def ckCap (c : Sc) (sc scope : Scope) (js : List Nat) (fr : List Str) : Bool :=
  decide (js.map (fun i => c.N[i]?) = fr.map some) && fr.all (fun y => decide (sc.names.lookup y = some .cell) && decide ((y, NameKind.free) ∈ scope.names)) && scope.names.all (fun y => !decide (y.2 = .free) || decide (y.1 ∈ fr)) && decide fr.Nodup
def plainX : Expr → Bool
  | .Starred .. => false
  | .Set .. => false
  | .Slice .. => false
  | _ => true
def plainT : Expr → Bool
  | .UnaryOp .. => false
  | .BoolOp .. => false
  | .IfExp .. => false
  | .Compare .. => false
  | _ => true
def glB (sc : Scope) (x : Str) : Bool := decide (sc.names.lookup x = some .globalImplicit) && !(x == ("__debug__" : Str))
def visB (sc : Scope) (x : Str) : Bool := (decide (sc.names.lookup x = some .local) || decide (sc.names.lookup x = some .cell) || decide (sc.names.lookup x = some .free)) && !(x == ("__debug__" : Str)) && !(x == ("__classdict__" : Str))
def locB (sc : Scope) (x : Str) : Bool := decide (sc.names.lookup x = some .local) || decide (sc.names.lookup x = some .cell)
def ownP (N : List Str) (own : List Nat) : List (Str × Nat) := own.map fun i => (N.getD i ⟨#[]⟩, i)
def Es.len : Es → Nat
  | .nil => 0
  | .cons _ es => es.len + 1
def ckDct (n : Nat) : Expr → Bool
  | .Dict [] [] _ => n == 0
  | .Dict [some (.Constant (.str _) _ _)] [.Constant (.int _) _ _] _ => n == 1
  | _ => false
/-- a target: the slots it stores -/
def ckNm (N : List Str) (sc : Scope) (fn : Str → Bool) (i : Nat) : Expr → Bool
  | .Name x _ => decide (N[i]? = some x) && locB sc x && (fn x || decide (sc.names.lookup x = some .local))
  | _ => false
def ckNms (N : List Str) (sc : Scope) (fn : Str → Bool) : List Nat → List Expr → Bool
  | [], [] => true
  | i :: is, t :: ts => ckNm N sc fn i t && ckNms N sc fn is ts
  | _, _ => false
def ckTg (N : List Str) (sc : Scope) (fn : Str → Bool) : Tg → Expr → Bool
  | .nm i, e => ckNm N sc fn i e
  | .tp is, .Tuple ts _ _ => ckNms N sc fn is ts
  | _, _ => false
def isNs (o : CmpOp) : List CmpOp → List Expr → Bool
  | [p], [.Constant .none _ _] => decide (p = o)
  | _, _ => false
theorem isNs_of {o : CmpOp} {os : List CmpOp} {bs : List Expr} (h : isNs o os bs = true) : ∃ j p, os = [o] ∧ bs = [.Constant .none j p] := by
  unfold isNs at h
  split at h
  · simp only [decide_eq_true_eq] at h
    subst h
    exact ⟨_, _, rfl, rfl⟩
  · exact absurd h Bool.false_ne_true
def isBs (o : CmpOp) (k : Bool) : List CmpOp → List Expr → Bool
  | [p], [.Constant (.bool k') _ _] => decide (p = o) && decide (k' = k)
  | _, _ => false
theorem isBs_of {o : CmpOp} {k : Bool} {os : List CmpOp} {bs : List Expr} (h : isBs o k os bs = true) : ∃ j p, os = [o] ∧ bs = [.Constant (.bool k) j p] := by
  unfold isBs at h
  split at h
  · simp only [Bool.and_eq_true, decide_eq_true_eq] at h
    obtain ⟨rfl, rfl⟩ := h
    exact ⟨_, _, rfl, rfl⟩
  · exact absurd h Bool.false_ne_true
def isNm (sc : Scope) (s : String) : Expr → Bool
  | .Name y _ => glB sc y && decide (y = (s : Str))
  | _ => false
theorem isNm_of {sc : Scope} {s : String} {e : Expr} (h : isNm sc s e = true) : ∃ p, e = .Name (s : Str) p ∧ glB sc (s : Str) = true := by
  cases e with
  | Name y p =>
    simp only [isNm, Bool.and_eq_true, decide_eq_true_eq] at h
    obtain ⟨h1, rfl⟩ := h
    exact ⟨p, rfl, h1⟩
  | _ => exact absurd h Bool.false_ne_true
/-- may stand as a test -/
def tOk : E → Bool
  | .ite .. => false
  | .inot a => tOk a
  | _ => true
def Es.tOk : Es → Bool
  | .nil => true
  | .cons e es => Mu.tOk e && es.tOk
mutual
def ckE (c : Sc) (sc : Scope) : E → Expr → Bool
  | .var i, .Name x _ => visB sc x && decide (c.N[i]? = some x)
  | .non, .Constant .none _ _ => true
  | .bl b, .Constant (.bool b') _ _ => decide (b = b')
  | .int i, .Constant (.int j) _ _ => decide (i = j)
  | .str s, .Constant (.str x) _ _ => decide ((s : Str) = x)
  | .con x n, .Name y _ => glB sc y && decide ((x : Str) = y) && decide (c.cons[n]? = some y)
  | .tup es, .Tuple ls _ _ => ckEs c sc es ls && decide (es.len ≤ 1000)
  | .lst es, .List ls _ => ckEs c sc es ls && decide (es.len ≤ 1000)
  | .dct n, e => ckDct n e
  | .rep es k, .BinOp (.List ls _) .Mult k' _ => ckEs c sc es ls && decide (es.len ≤ 1000) && ckE c sc k k'
  | .bop o a b, .BinOp a' o' b' _ => decide (o.op = o') && ckE c sc a a' && ckE c sc b b'
  | .neg a, .UnaryOp .USub a' _ => ckE c sc a a'
  | .inot a, .UnaryOp .Not a' _ => ckE c sc a a'
  | .cmp o a b, .Compare a' [o'] [b'] _ => decide (o.op = o') && ckE c sc a a' && ckE c sc b b'
  | .chn o p a b d, .Compare a' [o', p'] [b', d'] _ => decide (o.op = o') && decide (p.op = p') && ckE c sc a a' && ckE c sc b b' && ckE c sc d d'
  | .isN a, .Compare a' os bs _ => isNs .Is os bs && ckE c sc a a'
  | .isT k n a, .Compare a' os bs _ => isBs (if n then .IsNot else .Is) k os bs && ckE c sc a a'
  | .notN a, .Compare a' os bs _ => isNs .IsNot os bs && ckE c sc a a'
  | .band es, .BoolOp .And ls _ => ckEs c sc es ls && es.tOk
  | .bor es, .BoolOp .Or ls _ => ckEs c sc es ls && es.tOk
  | .ite d a b, .IfExp d' a' b' _ => ckE c sc d d' && tOk d && ckE c sc a a' && ckE c sc b b'
  | .idx a i, .Subscript a' i' _ => ckE c sc a a' && ckE c sc i i'
  | .sli a lo hi, .Subscript a' (.Slice lo' hi' none _) _ => ckE c sc a a' && ckO c sc lo lo' && ckO c sc hi hi'
  | .isi a k, .Call (.Name x _) [a', b'] [] _ => glB sc x && decide (x = ("isinstance" : Str)) && isNm sc k.ty b' && ckE c sc a a'
  | .call f es, .Call (.Name x _) ls [] _ => glB sc x && decide (c.fns[f]? = some x) && decide (f < mB) && ckEs c sc es ls
  | .callM f es, .Call (.Name x _) ls [] _ => glB sc x && decide (c.fns[f]? = some x) && ckEs c sc es ls
  | .callC f es, .Call (.Name x _) ls [] _ => c.m.top && glB sc x && decide (c.fns[f]? = some x) && decide (f < mB) && ckEs c sc es ls && !ls.isEmpty
  | .callV i es, .Call (.Name x _) ls [] _ => visB sc x && decide (c.N[i]? = some x) && ckEs c sc es ls && !ls.isEmpty
  | .lam j js, .Lambda params body scope pos => c.m.top && c.m.chk j ⟨params, .expr body, scope⟩ && ckCap c sc scope js (c.m.fr j) && decide (c.m.nm pos.line pos.col = c.m.q ++ ("<lambda>" : Str)) && plainPs params
  | .ixof a e, .Call (.Attribute (.Name x xp) y ap) [v] [] pos => decide (y = ("index" : Str)) && (ap.endLine == pos.line) && ckE c sc a (.Name x xp) && ckE c sc e v
  | .pop a e, .Call (.Attribute (.Name x xp) y ap) [v] [] pos => decide (y = ("pop" : Str)) && (ap.endLine == pos.line) && ckE c sc a (.Name x xp) && ckE c sc e v
  | .rgL2 a e, .Call (.Name x _) [.Call (.Name y _) [l, l2] [] _] [] _ => glB sc x && decide (x = ("list" : Str)) && glB sc y && decide (y = ("range" : Str)) && ckE c sc a l && ckE c sc e l2
  | .rgL e, .Call (.Name x _) [.Call (.Name y _) [l] [] _] [] _ => glB sc x && decide (x = ("list" : Str)) && glB sc y && decide (y = ("range" : Str)) && ckE c sc e l
  | .rgT e, .Call (.Name x _) [.Call (.Name y _) [l] [] _] [] _ => glB sc x && decide (x = ("tuple" : Str)) && glB sc y && decide (y = ("range" : Str)) && ckE c sc e l
  | .sset e, .Call (.Name x _) [.Call (.Name y _) [l] [] _] [] _ => glB sc x && decide (x = ("sorted" : Str)) && glB sc y && decide (y = ("set" : Str)) && ckE c sc e l
  | .srt e, .Call (.Name x _) [l] [] _ => glB sc x && decide (x = ("sorted" : Str)) && ckE c sc e l
  | .trv e, .Call (.Name x _) [.Call (.Name y _) [l] [] _] [] _ => glB sc x && decide (x = ("tuple" : Str)) && glB sc y && decide (y = ("reversed" : Str)) && ckE c sc e l
  | .trv e, .Subscript l (.Slice none none (some (.UnaryOp .USub (.Constant (.int i) _ _) _)) _) _ => decide (i = 1) && ckE c sc e l
  | .lrv e, .Subscript l (.Slice none none (some (.UnaryOp .USub (.Constant (.int i) _ _) _)) _) _ => decide (i = 1) && ckE c sc e l
  | .lset e, .Call (.Name x _) [.Call (.Name y _) [l] [] _] [] _ => glB sc x && decide (x = ("len" : Str)) && glB sc y && decide (y = ("set" : Str)) && ckE c sc e l
  | .mm2 t a e, .Call (.Name x _) [a', e'] [] _ => glB sc x && decide (x = (if t = true then ("max" : Str) else ("min" : Str))) && ckE c sc a a' && ckE c sc e e'
  | .bi b a, .Call (.Name x _) [a'] [] _ => glB sc x && decide (x = (b.nm : Str)) && ckE c sc a a'
  | .comp own tg it cs elt, .ListComp elt' [⟨tg', it', ifs', az⟩] scope _ => decide (az = 0) && blkC c.N sc scope (ownP c.N own) && own.all (fun i => decide (i < c.N.length)) && tg.ix.all (fun i => decide (i ∈ own)) &&
      ckI c sc it tg' it' && ckTg c.N (relS scope sc) (fun x => scope.names.lookup x == some .cell) tg tg' && ckEs c.lo (relS scope sc) cs ifs' && cs.tOk && ckE c.lo (relS scope sc) elt elt'
  | .comp2 own tg it tg1 it1 cs elt, .ListComp elt' [⟨tg', it', [], az⟩, ⟨tg1', it1', ifs', az1⟩] scope _ => decide (az = 0) && decide (az1 = 0) && blkC c.N sc scope (ownP c.N own) && own.all (fun i => decide (i < c.N.length)) && tg.ix.all (fun i => decide (i ∈ own)) && tg1.ix.all (fun i => decide (i ∈ own)) &&
      ckI c sc it tg' it' && ckTg c.N (relS scope sc) (fun x => scope.names.lookup x == some .cell) tg tg' && ckI c.lo (relS scope sc) it1 tg1' it1' && ckTg c.N (relS scope sc) (fun x => scope.names.lookup x == some .cell) tg1 tg1' && ckEs c.lo (relS scope sc) cs ifs' && cs.tOk && ckE c.lo (relS scope sc) elt elt'
  | _, _ => false
def ckEs (c : Sc) (sc : Scope) : Es → List Expr → Bool
  | .nil, [] => true
  | .cons e es, l :: ls => ckE c sc e l && ckEs c sc es ls
  | _, _ => false
def ckO (c : Sc) (sc : Scope) : Oe → Option Expr → Bool
  | .no, none => true
  | .so e, some l => ckE c sc e l
  | _, _ => false
def ckI (c : Sc) (sc : Scope) : It → Expr → Expr → Bool
  | .seq e, _, l => ckE c sc e l
  | .zip e e', .Tuple _ _ _, .Call (.Name x _) [l, l'] [] _ => glB sc x && decide (x = ("zip" : Str)) && ckE c sc e l && ckE c sc e' l'
  | .enu e, .Tuple _ _ _, .Call (.Name x _) [l] [] _ => glB sc x && decide (x = ("enumerate" : Str)) && ckE c sc e l
  | .rng e, _, .Call (.Name x _) [l] [] _ => glB sc x && decide (x = ("range" : Str)) && ckE c sc e l
  | .rng2 e e', _, .Call (.Name x _) [l, l'] [] _ => glB sc x && decide (x = ("range" : Str)) && ckE c sc e l && ckE c sc e' l'
  | .rng3 e e' e'', _, .Call (.Name x _) [l, l', l''] [] _ => glB sc x && decide (x = ("range" : Str)) && ckE c sc e l && ckE c sc e' l' && ckE c sc e'' l''
  | _, _, _ => false
end
theorem ck_plain {c : Sc} {sc : Scope} {m : E} {e : Expr} (h : ckE c sc m e = true) : plainX e = true := by
  cases e <;> first
    | rfl
    | (cases m <;> exact h)
end Mu

namespace Mu
open PySem PySem.Spec PyProof.Rows L2 LamX NdefX

/-! ### readings -/
section
variable (K : PySem.W.Frag) (S : ST) (O : OF)
def tv (f : Rho → Store → Option (Val × Store)) : TE := fun σ H Q => ∃ (Fr : Hp) (M : Nat → Addr) (G : Hp) (ρ : Rho) (μ : Store) (r : Val) (μ' : Store), SS K S Fr M G H μ ∧ RR K S O M G ρ σ ∧ f ρ μ = some (r, μ') ∧
  ∀ v H' G', Le G G' → SS K S Fr M G' H' μ' → μ'.length = μ.length → RV K S O M G' v r → Q v H'
def tvT (f : Rho → Store → Option (Bool × Store)) : TT := fun σ H Q => ∃ (Fr : Hp) (M : Nat → Addr) (G : Hp) (ρ : Rho) (μ : Store) (r : Bool) (μ' : Store), SS K S Fr M G H μ ∧ RR K S O M G ρ σ ∧ f ρ μ = some (r, μ') ∧
  ∀ H' G', Le G G' → SS K S Fr M G' H' μ' → μ'.length = μ.length → Q r H'
def tvA (f : Rho → Store → Option (List D × Store)) : TA := fun σ H Q => ∃ (Fr : Hp) (M : Nat → Addr) (G : Hp) (ρ : Rho) (μ : Store) (r : List D) (μ' : Store), SS K S Fr M G H μ ∧ RR K S O M G ρ σ ∧ f ρ μ = some (r, μ') ∧
  ∀ vs H' G', Le G G' → SS K S Fr M G' H' μ' → μ'.length = μ.length → RpA K G' vs r → Q vs H'
inductive RVs (K : PySem.W.Frag) (S : ST) (O : OF) (M : Nat → Addr) (G : Hp) : List V → List Val → Prop where
  | nil : RVs K S O M G [] []
  | cons {v : V} {w : Val} {vs : List V} {ws : List Val} (h : RV K S O M G v w) (t : RVs K S O M G vs ws) : RVs K S O M G (v :: vs) (w :: ws)
def tvV (f : Rho → Store → Option (List Val × Store)) : TA := fun σ H Q => ∃ (Fr : Hp) (M : Nat → Addr) (G : Hp) (ρ : Rho) (μ : Store) (r : List Val) (μ' : Store), SS K S Fr M G H μ ∧ RR K S O M G ρ σ ∧ f ρ μ = some (r, μ') ∧
  ∀ vs H' G', Le G G' → SS K S Fr M G' H' μ' → μ'.length = μ.length → RVs K S O M G' vs r → Q vs H'
def tvO (f : Rho → Store → Option (Option Int × Store)) : TO := fun σ H Q => ∃ (Fr : Hp) (M : Nat → Addr) (G : Hp) (ρ : Rho) (μ : Store) (r : Option Int) (μ' : Store), SS K S Fr M G H μ ∧ RR K S O M G ρ σ ∧ f ρ μ = some (r, μ') ∧
  ∀ H' G', Le G G' → SS K S Fr M G' H' μ' → μ'.length = μ.length → Q r H'
/-- the list that is walked lies where it lay -/
def AgV (M M' : Nat → Addr) : Val → Prop
  | .p i => M' i = M i
  | _ => True
theorem AgV.rf (M : Nat → Addr) (v : Val) : AgV M M v := by
  cases v <;> first | rfl | trivial
/-- what is walked, by data -/
structure Wk (M : Nat → Addr) (G₀ : Hp) (J : L2.It) (xs : List D) (v : Val) : Prop where
  go : ∀ (Fr : Hp) (M' : Nat → Addr) (i : Nat) (H G : Hp) (μ : Store), SS K S Fr M' G H μ → Le G₀ G → AgV M M' v → Still v xs μ → i < xs.length → J.go i H
  yld : ∀ (Fr : Hp) (M' : Nat → Addr) (i : Nat) (H G : Hp) (μ : Store) (x : V) (H' : Hp), SS K S Fr M' G H μ → Le G₀ G → AgV M M' v → Still v xs μ → i < xs.length → J.yld i H x H' → ∃ G', Le G G' ∧ SS K S Fr M' G' H' μ ∧ ∃ d, xs[i]? = some d ∧ Rp K G' x d
  stop : ∀ (Fr : Hp) (M' : Nat → Addr) (H G : Hp) (μ : Store), SS K S Fr M' G H μ → Le G₀ G → AgV M M' v → Still v xs μ → J.stop xs.length H
def tvI (f : Rho → Store → Option ((List D × Val) × Store)) : TI := fun σ H R => ∃ (Fr : Hp) (M : Nat → Addr) (G : Hp) (ρ : Rho) (μ : Store) (xs : List D) (v : Val) (μ' : Store), SS K S Fr M G H μ ∧ RR K S O M G ρ σ ∧ f ρ μ = some ((xs, v), μ') ∧
  ∀ J H' G', Le G G' → SS K S Fr M G' H' μ' → μ'.length = μ.length → xs.length ≤ sizeLine → Still v xs μ' → Wk K S M G' J xs v → R J H'
end
theorem RVs.mono {K : PySem.W.Frag} {S : ST} {O : OF} {M : Nat → Addr} {G G' : Hp} (e : Le G G') : ∀ {vs : List V} {ws : List Val}, RVs K S O M G vs ws → RVs K S O M G' vs ws
  | _, _, .nil => .nil
  | _, _, .cons h t => .cons (h.mono e) (RVs.mono e t)
theorem RVs.length {K : PySem.W.Frag} {S : ST} {O : OF} {M : Nat → Addr} {G : Hp} : ∀ {vs : List V} {ws : List Val}, RVs K S O M G vs ws → vs.length = ws.length
  | _, _, .nil => rfl
  | _, _, .cons _ t => congrArg (· + 1) (RVs.length t)

theorem RV.any {K : PySem.W.Frag} {S : ST} {O : OF} {M : Nat → Addr} {G : Hp} {v : V} {w : Val} (h : RV K S noO M G v w) : RV K S O M G v w := by
  cases h with
  | d h => exact .d h
  | p i => exact .p i
  | c h => exact .c h
  | o h hc w => exact w.elim
theorem RV.out {K : PySem.W.Frag} {S : ST} {O O' : OF} {M : Nat → Addr} {G : Hp} {v : V} {w : Val} (h : RV K S O M G v w) (n : notO w = true) : RV K S O' M G v w := by
  cases h with
  | d h => exact .d h
  | p i => exact .p i
  | c h => exact .c h
  | o h hc w => cases n
theorem RVs.out {K : PySem.W.Frag} {S : ST} {O O' : OF} {M : Nat → Addr} {G : Hp} : ∀ {vs : List V} {ws : List Val}, RVs K S O M G vs ws → ws.all notO = true → RVs K S O' M G vs ws
  | _, _, .nil, _ => .nil
  | _, _, .cons h t, n => by
    rw [List.all_cons, Bool.and_eq_true] at n
    exact .cons (h.out n.1) (RVs.out t n.2)

variable {X : Cx} {e : Expr} {S : ST} {O : OF}
theorem _root_.L2.PE.wk {t t' : TE} (h : PE X e t) (w : ∀ σ H Q, t' σ H Q → t σ H Q) : PE X e t' := ⟨fun pins s σ H Q I q => h.run pins s σ H Q I (w σ H Q q)⟩
theorem _root_.L2.PT.wk {t t' : TT} (h : PT X e t) (w : ∀ σ H Q, t' σ H Q → t σ H Q) : PT X e t' := ⟨fun pins s σ H Q I q => h.run pins s σ H Q I (w σ H Q q)⟩
theorem _root_.L2.PW.wk {t t' : TT} (h : PW X e t) (w : ∀ σ H Q, t' σ H Q → t σ H Q) : PW X e t' := ⟨fun wh pins s σ H Q I q => h.run wh pins s σ H Q I (w σ H Q q)⟩
theorem _root_.L2.PA.wk {es : List Expr} {t t' : TA} (h : PA X es t) (w : ∀ σ H Q, t' σ H Q → t σ H Q) : PA X es t' := ⟨fun pos pins s σ H Q I q => h.run pos pins s σ H Q I (w σ H Q q)⟩
theorem _root_.L2.PO.wk {o : Option Expr} {t t' : TO} (h : PO X o t) (w : ∀ σ H Q, t' σ H Q → t σ H Q) : PO X o t' := ⟨fun pins s σ H Q I q => h.run pins s σ H Q I (w σ H Q q)⟩
theorem _root_.L2.PI.wk {tg : Expr} {t t' : TI} (h : PI X tg e t) (w : ∀ σ H Q, t' σ H Q → t σ H Q) : PI X tg e t' := ⟨fun pins s σ H Q I q => h.run pins s σ H Q I (w σ H Q q)⟩
theorem _root_.L2.PTs.wk {es : List Expr} {t t' : TT} (h : PTs X es t) (w : ∀ σ H Q, t' σ H Q → t σ H Q) : PTs X es t' := ⟨fun pins s σ H Q I q => h.run pins s σ H Q I (w σ H Q q)⟩
theorem _root_.L2.PI.or {tg : Expr} {t t' : TI} (h : PI X tg e t) (h' : PI X tg e t') : PI X tg e (fun σ H R => t σ H R ∨ t' σ H R) :=
  ⟨fun pins s σ H Q I q => q.elim (h.run pins s σ H Q I) (h'.run pins s σ H Q I)⟩

/-! ### what stands around -/
/-- the defs keep what callF says, to a depth -/
def CallsOk (P : Program) (w : World) (K : PySem.W.Frag) (S : ST) (mg : Str → Option Value) (base : Heap) (c : Sc) (k : Nat) (F : Calls) : Prop :=
  (∀ (j : Nat) (x : Str) (ws : List Val) (μ : Store) (r : Val) (μ' : Store), c.fns[j]? = some x → j < mB → F j ws μ = some (r, μ') → ∃ f : Addr, mg x = some (.ref f) ∧ PySem.W.keepIn K (.ref f) = true ∧
    ∀ (A : Around) (outer : List Env) (s : Shared) (H : Hp) (us : List Value) (vs : List V) (Q : VK) (Fr : Hp) (M : Nat → Addr) (G : Hp), Room k A → A.guards = some [] → Env0 P w K mg base A outer s H → Vals vs us →
      SS K S Fr M G H μ → RVs K S noO M G vs ws → (∀ v H' G', Le G G' → SS K S Fr M G' H' μ' → μ'.length = μ.length → RV K S noO M G' v r → Q v H') →
      codeAny (model P w) A (.call (.ref f) ⟨us, []⟩) (CR CX0 outer P w H s Q E0) s) ∧
  (∀ (j : Nat) (x : Str) (ws : List Val) (μ : Store) (ds : List D) (μ' : Store), c.fns[j]? = some x → F (mB + j) ws μ = some (.d (.list ds), μ') → ∃ f : Addr, mg x = some (.ref f) ∧ PySem.W.keepIn K (.ref f) = true ∧
    ∀ (A : Around) (outer : List Env) (s : Shared) (H : Hp) (us : List Value) (vs : List V) (Q : VK) (Fr : Hp) (M : Nat → Addr) (G : Hp), Room k A → A.guards = some [] → Env0 P w K mg base A outer s H → Vals vs us →
      SS K S Fr M G H μ → RVs K S noO M G vs ws → (∀ p zs H' G', Le G G' → SS K S Fr M G' H' μ' → μ'.length = μ.length → H' p = some (.lst zs) → G' p = none → Fr p = none → (∀ (i : Nat) (es : List D), μ'[i]? = some (some es) → M i ≠ p) → RpA K G' zs ds → ds.length ≤ sizeLine → Q (.ref p) H') →
      codeAny (model P w) A (.call (.ref f) ⟨us, []⟩) (CR CX0 outer P w H s Q E0) s) ∧
  (∀ (j : Nat) (x : Str) (ws : List Val) (μ : Store) (i : Int) (μ' : Store), c.fns[j]? = some x → F (xB + j) ws μ = some (.d (.int i), μ') → ∃ f : Addr, mg x = some (.ref f) ∧ PySem.W.keepIn K (.ref f) = true ∧
    ∃ jj : Nat, i = jj ∧ ∀ (A : Around) (outer : List Env) (s : Shared) (H : Hp) (us : List Value) (vs : List V) (E : XK) (Fr : Hp) (M : Nat → Addr) (G : Hp), Room k A → A.guards = some [] → Env0 P w K mg base A outer s H → Vals vs us →
      SS K S Fr M G H μ → RVs K S noO M G vs ws → (∀ (y : Str) (Cc : Addr) (H' G' : Hp), c.exs[jj]? = some y → mg y = some (.ref Cc) → Le G G' → SS K S Fr M G' H' μ' → μ'.length = μ.length → E (.ref Cc) none H') →
      codeAny (model P w) A (.call (.ref f) ⟨us, []⟩) (CR (L2.CX P w) outer P w H s (fun _ _ => False) E) s) ∧
  (∀ (j : Nat) (txt : CTxt) (ws env : List Val) (μ : Store) (r : Val) (μ' : Store), S.chk j txt = true → ws.all plainV = true → F j (ws ++ env) μ = some (r, μ') →
    ∀ (A : Around) (outer : List Env) (s : Shared) (H : Hp) (us : List Value) (vs : List V) (Q : VK) (Fr : Hp) (M : Nat → Addr) (G : Hp) (f : Addr) (cf : CF), cf.txt = txt → Room k A → A.guards = some [] → Env0 P w K mg base A outer s H → Vals vs us →
      SS K S Fr M G H μ → RVs K S noO M G vs ws → G f = some (CloO f cf) → G cf.c = some (CodeO cf.c cf.qual) → (∀ y c, cf.cl.lookup y = some c → y ∈ S.fr j) → (∀ x y c, cf.cl.lookup x = some c → cf.cl.lookup y = some c → x = y) → (S.fr j).Nodup → RCs K S G cf.cl (S.fr j) env →
      (∀ v H' G', Le G G' → SS K S Fr M G' H' μ' → μ'.length = μ.length → RV K S noO M G' v r → Q v H') →
      codeAny (model P w) A (.call (.ref f) ⟨us, []⟩) (CR CX0 outer P w H s Q E0) s) ∧
  (∀ (j : Nat) (ws : List Val) (μ : Store) (r : Val × Store), F j ws μ = some r → ws.all notO = true)
theorem CallsOk.args {P : Program} {w : World} {K : PySem.W.Frag} {S : ST} {mg : Str → Option Value} {base : Heap} {c : Sc} {k : Nat} {F : Calls} (h : CallsOk P w K S mg base c k F) {j : Nat} {ws : List Val} {μ : Store} {r : Val × Store} (e : F j ws μ = some r) : ws.all notO = true :=
  h.2.2.2.2 j ws μ r e

/-- the functions made by the def that runs in X -/
def ownOf (X : Cx) (S : ST) : OF := fun j js cf => S.chk j cf.txt = true ∧ cf.cl = cloFrom X.env.cells cf.txt.scope.names [] ∧ js.map (fun i => X.N[i]?) = (S.fr j).map some ∧ (S.fr j).Nodup ∧
  (∀ y ∈ S.fr j, X.env.scope.names.lookup y = some .cell ∧ (y, NameKind.free) ∈ cf.txt.scope.names) ∧ ∀ y ∈ cf.txt.scope.names, y.2 = .free → y.1 ∈ S.fr j
/-- what a def that makes functions needs -/
structure TopOk (X : Cx) (c : Sc) (S : ST) (O : OF) : Prop where
  own : O = ownOf X S
  code : ∃ cc P : Addr, X.env.code = .ref cc ∧ TabB X.base X.mg cc P ∧ (P, c.m.nm) ∈ S.tabs ∧ ∀ p ∈ S.tabs, p.1 = P → p.2 = c.m.nm
  q : X.env.qual = c.m.q
  fn : ∀ x, X.fn x = true
structure Good (X : Cx) (S : ST) (O : OF) (c : Sc) (C : Cons) (k : Nat) (F : Calls) : Prop where
  chk : ∀ j t, c.m.chk j t = true → S.chk j t = true
  fr : ∀ j, c.m.fr j = S.fr j
  top : c.m.top = true → TopOk X c S O
  N : X.N = c.N
  nd : X.N.Nodup
  calm : X.calm = true
  room : Room k X.A
  grd : X.A.guards = some []
  blt : ∀ x ∈ bltNames, X.mg (x : Str) = none
  con : ∀ (n : Nat) (x : Str) (d : D), c.cons[n]? = some x → C n = some d → ∃ u v, X.mg x = some u ∧ RelV v u ∧ Rp X.K (fun _ => none) v d
  calls : CallsOk X.prog X.w X.K S X.mg X.base c k F
theorem Good.hu {c : Sc} {C : Cons} {k : Nat} {F : Calls} (g : Good X S O c C k F) : X.A.units + 65 < cLine := by
  have := g.room.un
  omega
theorem Good.blk {c : Sc} {C : Cons} {k : Nat} {F : Calls} (g : Good X S O c C k F) (s : Shared) (H : Hp) (scope : Scope) (env : Env) (fp : List Addr) : Good (X.blk s H scope env fp) S O c.lo C k F :=
  ⟨g.chk, g.fr, (fun z => absurd (show false = true from z) (by decide)), g.N, g.nd, g.calm, g.room, g.grd, g.blt, g.con, g.calls⟩
theorem blt_of {c : Sc} {C : Cons} {k : Nat} {F : Calls} (g : Good X S O c C k F) (x : String) (h : bltNames.contains x = true) : X.mg (x : Str) = none :=
  g.blt x (by simpa using h)

/-! ### built-ins by data -/
theorem intsD_map : ∀ {xs : List D} {ns : List Int}, intsD xs = some ns → xs = ns.map PyData.int
  | [], ns, h => by simp [intsD] at h; subst h; rfl
  | x :: xs, ns, h => by
    cases x with
    | int i =>
      simp only [intsD, Option.map_eq_some_iff] at h
      obtain ⟨ms, h1, rfl⟩ := h
      rw [intsD_map h1]; rfl
    | _ => simp [intsD] at h
theorem max_fold {n m : Int} {ns : List Int} (h1 : m ∈ n :: ns) (h2 : ∀ y ∈ n :: ns, y ≤ m) : ns.foldl max n = m := by
  have up : ∀ (ns : List Int) (n : Int), (∀ y ∈ n :: ns, y ≤ ns.foldl max n) ∧ ns.foldl max n ∈ n :: ns := by
    intro ns
    induction ns with
    | nil => intro n; simp
    | cons k ns ih =>
      intro n
      obtain ⟨a, b⟩ := ih (max n k)
      rw [List.foldl_cons]
      refine ⟨fun y hy => ?_, ?_⟩
      · have z := a (max n k) List.mem_cons_self
        rcases List.mem_cons.mp hy with rfl | hy
        · omega
        · rcases List.mem_cons.mp hy with rfl | hy
          · omega
          · exact a y (List.mem_cons_of_mem _ hy)
      · rcases List.mem_cons.mp b with e | b
        · rw [e]
          by_cases q : n ≤ k
          · rw [Int.max_eq_right q]; exact List.mem_cons_of_mem _ List.mem_cons_self
          · rw [Int.max_eq_left (by omega)]; exact List.mem_cons_self
        · exact List.mem_cons_of_mem _ (List.mem_cons_of_mem _ b)
  obtain ⟨a, b⟩ := up ns n
  have c1 := a m h1
  have c2 := h2 _ b
  omega
theorem min_fold {n m : Int} {ns : List Int} (h1 : m ∈ n :: ns) (h2 : ∀ y ∈ n :: ns, m ≤ y) : ns.foldl min n = m := by
  have up : ∀ (ns : List Int) (n : Int), (∀ y ∈ n :: ns, ns.foldl min n ≤ y) ∧ ns.foldl min n ∈ n :: ns := by
    intro ns
    induction ns with
    | nil => intro n; simp
    | cons k ns ih =>
      intro n
      obtain ⟨a, b⟩ := ih (min n k)
      rw [List.foldl_cons]
      refine ⟨fun y hy => ?_, ?_⟩
      · have z := a (min n k) List.mem_cons_self
        rcases List.mem_cons.mp hy with rfl | hy
        · omega
        · rcases List.mem_cons.mp hy with rfl | hy
          · omega
          · exact a y (List.mem_cons_of_mem _ hy)
      · rcases List.mem_cons.mp b with e | b
        · rw [e]
          by_cases q : n ≤ k
          · rw [Int.min_eq_left q]; exact List.mem_cons_self
          · rw [Int.min_eq_right (by omega)]; exact List.mem_cons_of_mem _ List.mem_cons_self
        · exact List.mem_cons_of_mem _ (List.mem_cons_of_mem _ b)
  obtain ⟨a, b⟩ := up ns n
  have c1 := a m h1
  have c2 := h2 _ b
  omega
theorem reads_int {h : Heap} {v : Value} {i : Int} {as : List Addr} (r : Reads h v (.int i) as) : ∃ t, v = .int i t := by
  cases r
  exact ⟨_, rfl⟩
theorem readsAll_ints {h : Heap} : ∀ {ns : List Int} {us : List Value}, Vals (ns.map V.int) us → ∃ as, ReadsAll h us (ns.map PyData.int) as
  | [], _, r => by cases r; exact ⟨_, .nil⟩
  | n :: ns, _, r => by
    cases r with
    | cons r t =>
      obtain ⟨tk, rfl⟩ := r
      obtain ⟨as, q⟩ := readsAll_ints t
      exact ⟨_, .cons (.int n tk) q⟩
theorem alike_ints (ns : List Int) : PySem.W.AlikeAll (ns.map PyData.int) := by
  refine ⟨fun x hx y hy => ?_, fun x hx => ?_⟩
  · obtain ⟨a, _, rfl⟩ := List.mem_map.mp hx
    obtain ⟨b, _, rfl⟩ := List.mem_map.mp hy
    rfl
  · obtain ⟨a, _, rfl⟩ := List.mem_map.mp hx
    exact fun q => nomatch q
theorem depth_ints : ∀ ns : List Int, PyData.depthAll (ns.map PyData.int) ≤ 1
  | [] => by simp [PyData.depthAll]
  | n :: ns => by
    have := depth_ints ns
    simp only [List.map_cons, PyData.depthAll, PyData.depth]
    omega
theorem canLay_hasDict : ∀ d : D, d.canLay0 = true → d.hasDict = false := fun d h => by
  cases q : d.hasDict with
  | false => rfl
  | true =>
    have := PyData.hasDictAll_of_canLayAll [d] (by simpa [PyData.canLayAll0] using h)
    simp [PyData.hasDictAll, q] at this
theorem call_bi {c : Sc} {C : Cons} {k : Nat} {F : Calls} (g : Good X S O c C k F) (b : BI) : CallR X b.fv (fun vs H Q => ∃ x, vs = [x] ∧ rd1R X.K S O (biD b) x H Q) := by
  intro pins s σ H vs us Q I r h
  obtain ⟨x, rfl, Fr, M, G, μ, w1, d1, z, ss, r1, e1, e3, q⟩ := h
  have p1 := ss.rd r1 e1
  have fin : ∀ v, Rp X.K G v z → Q v H := fun v p => q v H G (Le.rfl' _) ss p
  cases b with
  | len =>
    cases d1 with
    | list xs =>
      simp only [biD, Option.some.injEq] at e3
      subst e3
      obtain ⟨a, ws, rfl, h1, q1, z1⟩ := ss.rdL r1 e1
      exact call_len_seq pins s σ H _ us Q I r ⟨a, ws, rfl, .inl h1.sql, fin _ (by rw [q1.length]; exact .int _)⟩
    | tuple xs =>
      simp only [biD, Option.some.injEq] at e3
      subst e3
      obtain ⟨a, ws, rfl, h1, q1, z1⟩ := ss.rdT r1 e1
      exact call_len_seq pins s σ H _ us Q I r ⟨a, ws, rfl, .inr h1, fin _ (by rw [q1.length]; exact .int _)⟩
    | str y =>
      simp only [biD] at e3
      split at e3
      · rename_i hz
        cases e3
        cases p1
        exact call_len_str pins s σ H _ us Q I r ⟨y, rfl, hz, fin _ (.int _)⟩
      · cases e3
    | _ => simp [biD] at e3
  | tup =>
    cases d1 with
    | list xs =>
      simp only [biD, Option.some.injEq] at e3
      subst e3
      obtain ⟨a, ws, rfl, h1, q1, z1⟩ := ss.rdL r1 e1
      refine call_tuple_of pins s σ H _ us Q I r ⟨a, ws, rfl, .inl ⟨h1.sql, fun p hp => ?_⟩⟩
      obtain ⟨G', le, s', r'⟩ := ss.tup hp q1 z1
      exact q _ _ G' le s' r'
    | tuple xs =>
      simp only [biD, Option.some.injEq] at e3
      subst e3
      obtain ⟨a, ws, rfl, h1, q1, z1⟩ := ss.rdT r1 e1
      refine call_tuple_of pins s σ H _ us Q I r ⟨a, ws, rfl, .inr ⟨h1, ?_⟩⟩
      cases w1 with
      | d x2 =>
        simp only [deref, Option.some.injEq] at e1
        subst e1
        cases r1 with
        | d r1 => exact fin _ r1
      | p i => unfold deref at e1; simp only at e1; split at e1 <;> cases e1
      | c _ => cases e1
      | o _ _ => cases e1
    | _ => simp [biD] at e3
  | lst =>
    cases d1 with
    | list xs =>
      simp only [biD, Option.some.injEq] at e3
      subst e3
      obtain ⟨a, ws, rfl, h1, q1, z1⟩ := ss.rdL r1 e1
      refine call_list_of pins s σ H _ us Q I r ⟨a, ws, rfl, .inl h1.sql, fun p hp => ?_⟩
      obtain ⟨G', le, s', r'⟩ := ss.lst hp q1 z1
      exact q _ _ G' le s' r'
    | tuple xs =>
      simp only [biD, Option.some.injEq] at e3
      subst e3
      obtain ⟨a, ws, rfl, h1, q1, z1⟩ := ss.rdT r1 e1
      refine call_list_of pins s σ H _ us Q I r ⟨a, ws, rfl, .inr h1, fun p hp => ?_⟩
      obtain ⟨G', le, s', r'⟩ := ss.lst hp q1 z1
      exact q _ _ G' le s' r'
    | _ => simp [biD] at e3
  | int =>
    cases d1 with
    | int i =>
      simp only [biD, Option.some.injEq] at e3
      subst e3
      cases p1
      exact call_int1 pins s σ H _ us Q I r (.inl ⟨i, rfl, fin _ (.int _)⟩)
    | bool i =>
      simp only [biD, Option.some.injEq] at e3
      subst e3
      cases p1
      exact call_int1 pins s σ H _ us Q I r (.inr ⟨i, rfl, fin _ (.int _)⟩)
    | _ => simp [biD] at e3
  | bool =>
    cases d1 with
    | int i =>
      simp only [biD, Option.some.injEq] at e3
      subst e3
      cases p1
      exact call_bool1 pins s σ H _ us Q I r (.inl ⟨i, rfl, fin _ (.bl _)⟩)
    | bool i =>
      simp only [biD, Option.some.injEq] at e3
      subst e3
      cases p1
      exact call_bool1 pins s σ H _ us Q I r (.inr ⟨i, rfl, fin _ (.bl _)⟩)
    | _ => simp [biD] at e3
  | all =>
    cases d1 with
    | list xs =>
      simp only [biD, Option.map_eq_some_iff] at e3
      obtain ⟨bs, e4, rfl⟩ := e3
      obtain ⟨a, ws, rfl, h1, q1, z1⟩ := ss.rdL r1 e1
      have e5 := q1.bools e4
      subst e5
      exact cr_all g.calm pins s σ H _ us Q I r ⟨a, bs, rfl, h1.sql, fin _ (.bl _)⟩
    | _ => simp [biD] at e3
  | any =>
    cases d1 with
    | list xs =>
      simp only [biD, Option.map_eq_some_iff] at e3
      obtain ⟨bs, e4, rfl⟩ := e3
      obtain ⟨a, ws, rfl, h1, q1, z1⟩ := ss.rdL r1 e1
      have e5 := q1.bools e4
      subst e5
      exact cr_any g.calm pins s σ H _ us Q I r ⟨a, bs, rfl, h1.sql, fin _ (.bl _)⟩
    | _ => simp [biD] at e3
  | sum =>
    cases d1 with
    | list xs =>
      simp only [biD, Option.map_eq_some_iff] at e3
      obtain ⟨ns, e4, rfl⟩ := e3
      obtain ⟨a, ws, rfl, h1, q1, z1⟩ := ss.rdL r1 e1
      have e5 := q1.ints (intsD_map e4)
      subst e5
      exact cr_sum g.calm pins s σ H _ us Q I r ⟨a, ns, rfl, h1.sql, fin _ (.int _)⟩
    | _ => simp [biD] at e3
  | max =>
    cases d1 with
    | list xs =>
      simp only [biD] at e3
      split at e3
      · rename_i n ns e4
        cases e3
        obtain ⟨a, ws, rfl, h1, q1, z1⟩ := ss.rdL r1 e1
        have e5 := q1.ints (intsD_map e4)
        subst e5
        refine cr_max g.calm pins s σ H _ us Q I r ⟨a, n :: ns, rfl, h1.sql, by simp, fun m m1 m2 => fin _ ?_⟩
        rw [max_fold m1 m2]
        exact .int _
      · cases e3
    | tuple xs =>
      simp only [biD] at e3
      split at e3
      · rename_i n ns e4
        cases e3
        obtain ⟨a, ws, rfl, h1, q1, z1⟩ := ss.rdT r1 e1
        have e5 := q1.ints (intsD_map e4)
        subst e5
        obtain ⟨its, rv, pl, _⟩ := I.tuple h1
        rw [Vals.ref1 r]
        obtain ⟨as, ra⟩ := readsAll_ints (h := s.heap) rv
        have hu := g.room.un
        have dp := depth_ints (n :: ns)
        refine PySem.W.max_tuple_data (x := .int n) (xs := ns.map .int) (as := as) (I.ok.hd g.calm) pl (by simpa using ra) (alike_ints (n :: ns)) (by rw [show PyData.int n :: ns.map PyData.int = (n :: ns).map PyData.int from rfl]; omega) fun i v h' tk bs _ rd hk => ?_
        rw [PySem.W.maxD_ints] at rd
        obtain ⟨t, rfl⟩ := reads_int rd
        exact ⟨.int _, H, I.kept hk, ⟨_, rfl⟩, fin _ (.int _)⟩
      · cases e3
    | _ => simp [biD] at e3
  | min =>
    cases d1 with
    | list xs =>
      simp only [biD] at e3
      split at e3
      · rename_i n ns e4
        cases e3
        obtain ⟨a, ws, rfl, h1, q1, z1⟩ := ss.rdL r1 e1
        have e5 := q1.ints (intsD_map e4)
        subst e5
        refine cr_min g.calm pins s σ H _ us Q I r ⟨a, n :: ns, rfl, h1.sql, by simp, fun m m1 m2 => fin _ ?_⟩
        rw [min_fold m1 m2]
        exact .int _
      · cases e3
    | tuple xs =>
      simp only [biD] at e3
      split at e3
      · rename_i n ns e4
        cases e3
        obtain ⟨a, ws, rfl, h1, q1, z1⟩ := ss.rdT r1 e1
        have e5 := q1.ints (intsD_map e4)
        subst e5
        obtain ⟨its, rv, pl, _⟩ := I.tuple h1
        rw [Vals.ref1 r]
        obtain ⟨as, ra⟩ := readsAll_ints (h := s.heap) rv
        have hu := g.room.un
        have dp := depth_ints (n :: ns)
        refine PySem.W.min_tuple_data (x := .int n) (xs := ns.map .int) (as := as) (I.ok.hd g.calm) pl (by simpa using ra) (alike_ints (n :: ns)) (by rw [show PyData.int n :: ns.map PyData.int = (n :: ns).map PyData.int from rfl]; omega) fun i v h' tk bs _ rd hk => ?_
        rw [PySem.W.minD_ints] at rd
        obtain ⟨t, rfl⟩ := reads_int rd
        exact ⟨.int _, H, I.kept hk, ⟨_, rfl⟩, fin _ (.int _)⟩
      · cases e3
    | _ => simp [biD] at e3
  | repr =>
    cases d1 with
    | tuple xs =>
      simp only [biD] at e3
      split at e3
      · rename_i hs
        cases e3
        obtain ⟨hs1, hs2, hs3⟩ := hs
        obtain ⟨a, ws, rfl, h1, q1, z1⟩ := ss.rdT r1 e1
        rw [Vals.ref1 r]
        obtain ⟨as, ra⟩ := Dp.reads I _ _ _ (shp_dp hs2 p1) rfl
        have hu := g.room.un
        have dp := SeqAt.depth_of_shaped hs2
        refine repr_of_reads' ra hs1 (fun hd => ?_) g.grd (by omega) (fun _ _ e => e) (fun h' u tk hk => ?_) hs3
        · rw [canLay_hasDict _ (SeqAt.canLay_of_shaped hs2)] at hd; cases hd
        · exact ⟨.str _, H, I.kept hk, ⟨_, rfl⟩, fin _ (.str _)⟩
      · cases e3
    | _ => simp [biD] at e3
end Mu

namespace Mu
open PySem PySem.Spec PyProof.Rows L2 LamX NdefX
variable {X : Cx} {S : ST} {O : OF} {c : Sc} {C : Cons} {k : Nat} {F : Calls}

theorem bnd {α β : Type} {x : Option α} {f : α → Option β} {b : β} (h : x.bind f = some b) : ∃ a, x = some a ∧ f a = some b := Option.bind_eq_some_iff.mp h
theorem SS.frzV {K : PySem.W.Frag} {Fr : Hp} {M : Nat → Addr} {G H : Hp} {μ μ1 : Store} {v : V} {w : Val} {x : D} (s : SS K S Fr M G H μ) (r : RV K S O M G v w) (e : Mu.frzV μ w = some (x, μ1)) :
    ∃ G', Le G G' ∧ SS K S Fr M G' H μ1 ∧ Rp K G' v x ∧ μ1.length = μ.length := by
  cases r with
  | d h => simp only [Mu.frzV, Option.some.injEq, Prod.mk.injEq] at e; obtain ⟨rfl, rfl⟩ := e; exact ⟨G, Le.rfl' _, s, h, rfl⟩
  | p i =>
    simp only [Mu.frzV] at e
    split at e
    · rename_i xs hx
      simp only [Option.some.injEq, Prod.mk.injEq] at e
      obtain ⟨rfl, rfl⟩ := e
      obtain ⟨G', a, b, d⟩ := s.frz hx
      exact ⟨G', a, b, d, by simp⟩
    · cases e
  | c h => cases e
  | o h hc w => cases e
theorem tv_go {K : PySem.W.Frag} {f : Rho → Store → Option (Val × Store)} {σ : L2.St} {H : Hp} {P : V → Hp → Prop} {Fr : Hp} {M : Nat → Addr} {G : Hp} {ρ : Rho} {μ : Store} {r : Val} {μ' : Store} (s : SS K S Fr M G H μ) (rr : RR K S O M G ρ σ) (e : f ρ μ = some (r, μ'))
    (q : ∀ v H' G', Le G G' → SS K S Fr M G' H' μ' → μ'.length = μ.length → RV K S O M G' v r → P v H') : tv K S O f σ H P := ⟨Fr, M, G, ρ, μ, r, μ', s, rr, e, q⟩
theorem tvT_go {K : PySem.W.Frag} {f : Rho → Store → Option (Bool × Store)} {σ : L2.St} {H : Hp} {P : Bool → Hp → Prop} {Fr : Hp} {M : Nat → Addr} {G : Hp} {ρ : Rho} {μ : Store} {r : Bool} {μ' : Store} (s : SS K S Fr M G H μ) (rr : RR K S O M G ρ σ) (e : f ρ μ = some (r, μ'))
    (q : ∀ H' G', Le G G' → SS K S Fr M G' H' μ' → μ'.length = μ.length → P r H') : tvT K S O f σ H P := ⟨Fr, M, G, ρ, μ, r, μ', s, rr, e, q⟩
theorem rd1_some {μ μ' : Store} {v r : Val} {f : D → Option D} (h : rd1 μ v f = some (r, μ')) : ∃ x z, deref μ v = some x ∧ f x = some z ∧ r = .d z ∧ μ' = μ := by
  obtain ⟨x, h1, h2⟩ := bnd h
  obtain ⟨z, h3, h4⟩ := Option.map_eq_some_iff.mp h2
  cases h4
  exact ⟨x, z, h1, h3, rfl, rfl⟩
theorem rd2_some {μ μ' : Store} {v w r : Val} {f : D → D → Option D} (h : rd2 μ v w f = some (r, μ')) : ∃ x y z, deref μ v = some x ∧ deref μ w = some y ∧ f x y = some z ∧ r = .d z ∧ μ' = μ := by
  obtain ⟨x, h1, h2⟩ := bnd h
  obtain ⟨y, h3, h4⟩ := bnd h2
  obtain ⟨z, h5, h6⟩ := Option.map_eq_some_iff.mp h4
  cases h6
  exact ⟨x, y, z, h1, h3, h5, rfl, rfl⟩
/-- two values, then an operation on data -/
theorem tv_bin {K : PySem.W.Frag} {fa fb : Rho → Store → Option (Val × Store)} {f : D → D → Option D} {σ : L2.St} {H : Hp} {Q : V → Hp → Prop}
    (h : tv K S O (fun ρ μ => (fa ρ μ).bind fun (v, μ1) => (fb ρ μ1).bind fun (w, μ2) => rd2 μ2 v w f) σ H Q) : tOp (rd2R K S O f) (tv K S O fa) (tv K S O fb) σ H Q := by
  obtain ⟨Fr, M, G, ρ, μ, r, μ', s, rr, e, q⟩ := h
  obtain ⟨⟨v1, μ1⟩, e1, e⟩ := bnd e
  obtain ⟨⟨v2, μ2⟩, e2, e⟩ := bnd e
  obtain ⟨d1, d2, z, g1, g2, g3, rfl, rfl⟩ := rd2_some e
  refine tv_go s rr e1 fun x H1 G1 l1 s1 n1 r1 => tv_go s1 (rr.mono l1) e2 fun y H2 G2 l2 s2 n2 r2 => ?_
  exact ⟨Fr, M, G2, _, v1, v2, d1, d2, z, s2, r1.mono l2, r2, g1, g2, g3, fun v H3 G3 l3 s3 r3 => q v H3 G3 (l1.trans (l2.trans l3)) s3 (n2.trans n1) (.d r3)⟩
theorem Good.gl (g : Good X S O c C k F) {x : Str} (h : glB X.env.scope x = true) : Gl X x ∧ (x == ("__debug__" : Str)) = false := by
  simp only [glB, Bool.and_eq_true, decide_eq_true_eq, Bool.not_eq_true'] at h
  exact ⟨h.1, h.2⟩
theorem star_of {e : Expr} {es : List Expr} {env : Env} (h : plainX e = true) : starEach (e :: es) env = (false, eval e env) :: starEach es env := by
  cases e <;> first | rfl | cases h
theorem star_any {env : Env} {pos : Pos} : ∀ {es : List Expr}, (∀ e ∈ es, plainX e = true) → (backTo pos (starEach es env)).any (·.1) = false
  | [], _ => rfl
  | e :: es, h => by
    rw [star_of (h e List.mem_cons_self)]
    have ih := star_any (env := env) (pos := pos) (es := es) fun x hx => h x (List.mem_cons_of_mem _ hx)
    show (false || (backTo pos (starEach es env)).any (·.1)) = false
    rw [ih]; rfl
theorem folded_of {e : Expr} {env : Env} {x : Value} (h : plainX e = true) : foldedSetIterable e env x = pure x := by
  cases e <;> first | rfl | cases h
theorem mark_of {e : Expr} {o : CmpOp} (h : plainX e = true) : behindInMarks o e = false := by
  cases e <;> first | rfl | cases h
theorem plainIx_of {e : Expr} (h : plainX e = true) : PlainIx e := by
  intro o i
  cases e <;> first | rfl | cases h
theorem truth_of {a : Expr} (h : plainT a = true) {env : Env} (whole : Sem Value) : isTrue a env whole = (do let v ← whole; standAt a.pos; holding [v] (truthy v)) := by
  cases a <;> first | rfl | cases h
/-- a value's truth as a test -/
theorem pt_tv {e : Expr} {f : Rho → Store → Option (Val × Store)} (h : PE X e (tv X.K S O f)) (ht : plainT e = true) : PT X e (tvT X.K S O fun ρ μ => toT (f ρ μ)) := by
  refine (pt_truth h fun whole => truth_of ht whole).wk fun σ H Q q => ?_
  obtain ⟨Fr, M, G, ρ, μ, r, μ', s, rr, e, q⟩ := q
  obtain ⟨⟨v, μ1⟩, e1, e⟩ := bnd e
  obtain ⟨x, e2, e⟩ := bnd e
  obtain ⟨b, e3, e⟩ := Option.map_eq_some_iff.mp e
  cases e
  exact tv_go s rr e1 fun x H1 G1 l1 s1 n1 r1 => ⟨_, truV_of s1 r1 e2 e3, q H1 G1 l1 s1 n1⟩

/-! ### names, constants -/
theorem snd_var (g : Good X S O c C k F) {i : Nat} {x : Str} {pos : Pos} (h : visB X.env.scope x = true) (hN : c.N[i]? = some x) : PE X (.Name x pos) (tv X.K S O (evE C F (.var i))) := by
  simp only [visB, Bool.and_eq_true, Bool.or_eq_true, decide_eq_true_eq, Bool.not_eq_true'] at h
  obtain ⟨⟨hv, hd⟩, hc⟩ := h
  have hv' : Vis X.env.scope x := by
    rcases hv with (hv | hv) | hv
    · exact .inl hv
    · exact .inr (.inl hv)
    · exact .inr (.inr hv)
  refine (pe_var (i := i) (by rw [g.N]; exact hN) hv' hd hc).wk fun σ H Q q => ?_
  obtain ⟨Fr, M, G, ρ, μ, r, μ', s, rr, e, q⟩ := q
  simp only [evE] at e
  split at e
  · rename_i v hv
    cases e
    obtain ⟨y, h1, h2⟩ := rr.at_ i _ hv
    exact ⟨y, h1, q y H G (Le.rfl' _) s rfl h2⟩
  · cases e
theorem tv_c {K : PySem.W.Frag} {f : Rho → Store → Option (Val × Store)} {v : V} {d : D} (hf : ∀ ρ μ, f ρ μ = some (.d d, μ)) (hr : ∀ G, Rp K G v d) : ∀ σ H Q, tv K S O f σ H Q → tC v σ H Q := fun σ H Q q => by
  obtain ⟨Fr, M, G, ρ, μ, r, μ', s, rr, e, q⟩ := q
  rw [hf] at e
  cases e
  exact q v H G (Le.rfl' _) s rfl (.d (hr G))
theorem snd_con (g : Good X S O c C k F) {n : Nat} {x : String} {y : Str} {pos : Pos} (h : glB X.env.scope y = true) (hN : c.cons[n]? = some y) : PE X (.Name y pos) (tv X.K S O (evE C F (.con x n))) := by
  obtain ⟨h1, h2⟩ := g.gl h
  refine ⟨fun pins s σ H Q I q => ?_⟩
  obtain ⟨Fr, M, G, ρ, μ, r, μ', ss, rr, e, q⟩ := q
  simp only [evE, Option.map_eq_some_iff] at e
  obtain ⟨d, e1, e2⟩ := e
  cases e2
  obtain ⟨u, v, a1, a2, a3⟩ := g.con n y d hN e1
  exact (pe_glob h1 a1 a2 h2).run pins s σ H Q I (q v H G (Le.rfl' _) ss rfl (.d (a3.mono fun _ _ z => by cases (show (none : Option HO) = some _ from z))))

/-! ### lists of expressions -/
theorem snd_es_nil : PA X [] (tvA X.K S O (evEs C F .nil)) := by
  refine PA.wk pa_nil fun σ H Q q => ?_
  obtain ⟨Fr, M, G, ρ, μ, r, μ', s, rr, e, q⟩ := q
  simp only [evEs] at e
  cases e
  exact q [] H G (Le.rfl' _) s rfl .nil
theorem snd_es_cons {e : Expr} {m : E} {ls : List Expr} {es : Es} (h : PE X e (tv X.K S O (evE C F m))) (hp : plainX e = true) (t : PA X ls (tvA X.K S O (evEs C F es))) : PA X (e :: ls) (tvA X.K S O (evEs C F (.cons m es))) := by
  refine (pa_cons h t (star_of hp)).wk fun σ H Q q => ?_
  obtain ⟨Fr, M, G, ρ, μ, r, μ', s, rr, e, q⟩ := q
  simp only [evEs] at e
  obtain ⟨⟨x, μ1⟩, e1, e⟩ := bnd e
  obtain ⟨⟨w, μ0⟩, e0, e1⟩ := bnd e1
  obtain ⟨⟨xs, μ2⟩, e2, e⟩ := bnd e
  cases e
  refine tv_go s rr e0 fun v H1 G1 l1 s1 n1 r1 => ?_
  obtain ⟨G2, l2, s2, r2, n2⟩ := s1.frzV r1 e1
  exact ⟨Fr, M, G2, ρ, μ1, xs, _, s2, rr.mono (l1.trans l2), e2, fun vs H3 G3 l3 s3 n3 r3 => q (v :: vs) H3 G3 (l1.trans (l2.trans l3)) s3 (n3.trans (n2.trans n1)) (.cons (r2.mono l3) r3)⟩
theorem snd_vs_nil : PA X [] (tvV X.K S O (evVs C F .nil)) := by
  refine PA.wk pa_nil fun σ H Q q => ?_
  obtain ⟨Fr, M, G, ρ, μ, r, μ', s, rr, e, q⟩ := q
  simp only [evVs] at e
  cases e
  exact q [] H G (Le.rfl' _) s rfl .nil
theorem snd_vs_cons {e : Expr} {m : E} {ls : List Expr} {es : Es} (h : PE X e (tv X.K S O (evE C F m))) (hp : plainX e = true) (t : PA X ls (tvV X.K S O (evVs C F es))) : PA X (e :: ls) (tvV X.K S O (evVs C F (.cons m es))) := by
  refine (pa_cons h t (star_of hp)).wk fun σ H Q q => ?_
  obtain ⟨Fr, M, G, ρ, μ, r, μ', s, rr, e, q⟩ := q
  simp only [evVs] at e
  obtain ⟨⟨w, μ1⟩, e1, e⟩ := bnd e
  obtain ⟨⟨xs, μ2⟩, e2, e⟩ := bnd e
  cases e
  refine tv_go s rr e1 fun v H1 G1 l1 s1 n1 r1 => ?_
  exact ⟨Fr, M, G1, ρ, μ1, xs, _, s1, rr.mono l1, e2, fun vs H3 G3 l3 s3 n3 r3 => q (v :: vs) H3 G3 (l1.trans l3) s3 (n3.trans n1) (.cons (r1.mono l3) r3)⟩
theorem evEs_len : ∀ {es : Es} {ρ : Rho} {μ μ' : Store} {xs : List D}, evEs C F es ρ μ = some (xs, μ') → xs.length = es.len
  | .nil, ρ, μ, μ', xs, h => by simp only [evEs] at h; cases h; rfl
  | .cons e es, ρ, μ, μ', xs, h => by
    simp only [evEs] at h
    obtain ⟨⟨x, μ1⟩, e1, h⟩ := bnd h
    obtain ⟨⟨ys, μ2⟩, e2, h⟩ := bnd h
    cases h
    simp only [List.length_cons, Es.len, evEs_len e2]
theorem small_line {n : Nat} (h : n ≤ 1000) : n ≤ sizeLine := Nat.le_trans h (by decide)
theorem snd_tup {ls : List Expr} {es : Es} {x : Nat} {pos : Pos} (h : PA X ls (tvA X.K S O (evEs C F es))) (hl : es.len ≤ 1000) : PE X (.Tuple ls x pos) (tv X.K S O (evE C F (.tup es))) := by
  refine (pe_tup h).wk fun σ H Q q => ?_
  obtain ⟨Fr, M, G, ρ, μ, r, μ', s, rr, e, q⟩ := q
  simp only [evE] at e
  obtain ⟨⟨xs, μ1⟩, e1, e⟩ := bnd e
  cases e
  have hz : xs.length ≤ sizeLine := small_line (by rw [evEs_len e1]; exact hl)
  refine ⟨Fr, M, G, ρ, μ, xs, μ1, s, rr, e1, fun vs H1 G1 l1 s1 n1 r1 => ⟨by rw [r1.length]; exact hz, fun p hp => ?_⟩⟩
  obtain ⟨G2, l2, s2, r2⟩ := s1.tup hp r1 hz
  exact q _ _ G2 (l1.trans l2) s2 n1 (.d r2)
theorem snd_lst {ls : List Expr} {es : Es} {pos : Pos} (h : PA X ls (tvA X.K S O (evEs C F es))) (hl : es.len ≤ 1000) : PE X (.List ls pos) (tv X.K S O (evE C F (.lst es))) := by
  refine (pe_lst h).wk fun σ H Q q => ?_
  obtain ⟨Fr, M, G, ρ, μ, r, μ', s, rr, e, q⟩ := q
  simp only [evE] at e
  obtain ⟨⟨xs, μ1⟩, e1, e⟩ := bnd e
  cases e
  have hz : xs.length ≤ sizeLine := small_line (by rw [evEs_len e1]; exact hl)
  refine ⟨Fr, M, G, ρ, μ, xs, μ1, s, rr, e1, fun vs H1 G1 l1 s1 n1 r1 => ⟨by rw [r1.length]; exact hz, fun p hp => ?_⟩⟩
  obtain ⟨G2, l2, s2, r2⟩ := s1.lst hp r1 hz
  exact q _ _ G2 (l1.trans l2) s2 n1 (.d r2)
theorem toI_some {r : Option (Val × Store)} {i : Int} {μ : Store} (h : toI r = some (i, μ)) : r = some (.d (.int i), μ) := by
  obtain ⟨⟨v, μ1⟩, e, h2⟩ := bnd h
  rw [e]
  dsimp only at h2
  split at h2
  · cases h2; rfl
  · cases h2
theorem toB_some {r : Option (Val × Store)} {i : Bool} {μ : Store} (h : toB r = some (i, μ)) : r = some (.d (.bool i), μ) := by
  obtain ⟨⟨v, μ1⟩, e, h2⟩ := bnd h
  rw [e]
  dsimp only at h2
  split at h2
  · cases h2; rfl
  · cases h2
theorem toT_of_toB {r : Option (Val × Store)} {i : Bool} {μ : Store} (h : toB r = some (i, μ)) : toT r = some (i, μ) := by
  rw [toB_some h]; rfl
theorem len_rep {α : Type} (xs : List α) : ∀ n : Nat, (List.replicate n xs).flatten.length = xs.length * n
  | 0 => by simp
  | n + 1 => by rw [List.replicate_succ, List.flatten_cons, List.length_append, len_rep xs n, Nat.mul_succ, Nat.add_comm]
theorem snd_rep {ls : List Expr} {es : Es} {p1 pos : Pos} {b : Expr} {m : E} (h : PA X ls (tvA X.K S O (evEs C F es))) (hl : es.len ≤ 1000) (hb : PE X b (tv X.K S O (evE C F m))) : PE X (.BinOp (.List ls p1) .Mult b pos) (tv X.K S O (evE C F (.rep es m))) := by
  refine (pe_op op_rep (pe_lst h) hb).wk fun σ H Q q => ?_
  obtain ⟨Fr, M, G, ρ, μ, r, μ', s, rr, e, q⟩ := q
  simp only [evE] at e
  obtain ⟨⟨xs, μ1⟩, e1, e⟩ := bnd e
  obtain ⟨⟨n, μ2⟩, e2, e⟩ := bnd e
  have e2 := toI_some e2
  split at e
  · rename_i hc
    cases e
    have hz : xs.length ≤ sizeLine := small_line (by rw [evEs_len e1]; exact hl)
    refine ⟨Fr, M, G, ρ, μ, xs, μ1, s, rr, e1, fun vs H1 G1 l1 s1 n1 r1 => ⟨by rw [r1.length]; exact hz, fun p hp => ?_⟩⟩
    obtain ⟨s2, l2⟩ := s1.new (o := .lst vs) hp
    refine tv_go s2 (rr.mono (l1.trans l2)) e2 fun y H3 G3 l3 s3 n3 r3 => ?_
    cases r3 with
    | d r3 =>
      cases r3
      refine ⟨p, n, vs, rfl, rfl, s3.sub p _ (l3 p _ upd_same), hc.1, hc.2.1, by rw [r1.length]; exact hc.2.2, fun p2 hp2 => ?_⟩
      obtain ⟨G4, l4, s4, r4⟩ := s3.lst hp2 ((r1.mono (l2.trans l3)).rep n.toNat) (by rw [len_rep]; exact hc.2.2)
      exact q _ _ G4 (l1.trans (l2.trans (l3.trans l4))) s4 (n3.trans n1) (.d r4)
  · cases e
theorem snd_dct0 {pos : Pos} {n : Nat} : PE X (.Dict [] [] pos) (tv X.K S O (evE C F (.dct n))) := by
  refine PE.wk pe_dnewK fun σ H Q q => ?_
  obtain ⟨Fr, M, G, ρ, μ, r, μ', s, rr, e, q⟩ := q
  simp only [evE] at e
  cases e
  intro p hp
  obtain ⟨s2, l2⟩ := s.new (o := .dK []) hp
  exact q _ _ _ l2 s2 rfl (.d (.dct upd_same))
theorem snd_dct1 {pos p1 p2 : Pos} {j j' : Nat} {x : Str} {i : Int} {n : Nat} : PE X (.Dict [some (.Constant (.str x) j p1)] [.Constant (.int i) j' p2] pos) (tv X.K S O (evE C F (.dct n))) := by
  refine (pe_disp (X := X) (pos := pos) (pps_cons (pe_str (x := x) (j := j) (pos := p1)) (pe_int (i := i) (j := j') (pos := p2)) pps_nil) (by rfl) (by rfl) (fun z => by cases z) (by show 1 ≤ 15; decide)).wk fun σ H Q q => ?_
  obtain ⟨Fr, M, G, ρ, μ, r, μ', s, rr, e, q⟩ := q
  simp only [evE] at e
  cases e
  intro p hp
  refine ⟨upd_same, [(.inr x, .int i)], rfl, by show 1 ≤ 15; decide, ?_⟩
  obtain ⟨s2, l2⟩ := s.new (o := .dK (mergeK [] [(Sum.inr x, V.int i)])) hp
  rw [upd_upd]
  exact q _ _ _ l2 s2 rfl (.d (.dct upd_same))
end Mu

namespace Mu
open PySem PySem.Spec PyProof.Rows L2 LamX NdefX
variable {X : Cx} {S : ST} {O : OF} {c : Sc} {C : Cons} {k : Nat} {F : Calls}

/-! ### operations -/
theorem snd_bop {a b : Expr} {ma mb : E} {o : BOp} {pos : Pos} (ha : PE X a (tv X.K S O (evE C F ma))) (hb : PE X b (tv X.K S O (evE C F mb))) : PE X (.BinOp a o.op b pos) (tv X.K S O (evE C F (.bop o ma mb))) := by
  refine (pe_op (op_bop o) ha hb).wk fun σ H Q q => tv_bin ?_
  obtain ⟨Fr, M, G, ρ, μ, r, μ', s, rr, e, q⟩ := q
  exact ⟨Fr, M, G, ρ, μ, r, μ', s, rr, by simpa only [evE] using e, q⟩
theorem snd_cmp (g : Good X S O c C k F) {a b : Expr} {ma mb : E} {o : COp} {pos : Pos} (ha : PE X a (tv X.K S O (evE C F ma))) (hb : PE X b (tv X.K S O (evE C F mb))) (pb : plainX b = true) : PE X (.Compare a [o.op] [b] pos) (tv X.K S O (evE C F (.cmp o ma mb))) := by
  refine (pe_cmpR (op_cmp g.hu o) ha hb (mark_of pb)).wk fun σ H Q q => tv_bin ?_
  obtain ⟨Fr, M, G, ρ, μ, r, μ', s, rr, e, q⟩ := q
  exact ⟨Fr, M, G, ρ, μ, r, μ', s, rr, by simpa only [evE] using e, q⟩
/-- a comparison's answer is True or False -/
theorem cmpD_bool {o : COp} {x y z : D} (h : cmpD o x y = some z) : ∃ b, z = .bool b := by
  cases o <;> cases x <;> cases y <;> simp only [cmpD] at h <;> first
    | (obtain ⟨b, _, rfl⟩ := Option.map_eq_some_iff.mp h; exact ⟨_, rfl⟩)
    | (obtain ⟨a, _, h⟩ := Option.bind_eq_some_iff.mp h; obtain ⟨b, _, rfl⟩ := Option.map_eq_some_iff.mp h; exact ⟨_, rfl⟩)
    | (obtain ⟨_, _, _, rfl⟩ := ltD_of h; exact ⟨_, rfl⟩)
    | (cases h; exact ⟨_, rfl⟩)
    | (split at h <;> first | (cases h; exact ⟨_, rfl⟩) | cases h)
    | cases h
theorem tst_cmp (g : Good X S O c C k F) {a b : Expr} {ma mb : E} {o : COp} {pos : Pos} (ha : PE X a (tv X.K S O (evE C F ma))) (hb : PE X b (tv X.K S O (evE C F mb))) (pb : plainX b = true) : PT X (.Compare a [o.op] [b] pos) (tvT X.K S O fun ρ μ => toT (evE C F (.cmp o ma mb) ρ μ)) := by
  refine (pt_cmpR (op_cmp g.hu o) ha hb (mark_of pb)).wk fun σ H Q q => tv_bin ?_
  obtain ⟨Fr, M, G, ρ, μ, r, μ', s, rr, e, q⟩ := q
  obtain ⟨⟨v, μ1⟩, e1, e⟩ := bnd e
  obtain ⟨x, e2, e⟩ := bnd e
  obtain ⟨b', e3, e⟩ := Option.map_eq_some_iff.mp e
  cases e
  refine ⟨Fr, M, G, ρ, μ, v, _, s, rr, by simpa only [evE] using e1, fun v' H1 G1 l1 s1 n1 r1 => ?_⟩
  simp only [evE] at e1
  obtain ⟨⟨w1, μ2⟩, a1, e1⟩ := bnd e1
  obtain ⟨⟨w2, μ3⟩, a2, e1⟩ := bnd e1
  obtain ⟨d1, d2, z, g1, g2, g3, rfl, rfl⟩ := rd2_some e1
  obtain ⟨b2, rfl⟩ := cmpD_bool g3
  simp only [deref, Option.some.injEq] at e2
  subst e2
  cases e3
  cases r1 with
  | d r1 => cases r1; exact ⟨_, rfl, q H1 G1 l1 s1 n1⟩
theorem chn_go {a b d : Expr} {ma mb md : E} {o p : COp} {σ : L2.St} {H : Hp} {Q : V → Hp → Prop}
    (q : tv X.K S O (evE C F (.chn o p ma mb md)) σ H Q) : tChain (rd2R X.K S O (cmpD o)) (rd2R X.K S O (cmpD p)) (tv X.K S O (evE C F ma)) (tv X.K S O (evE C F mb)) (tv X.K S O (evE C F md)) σ H Q := by
  obtain ⟨Fr, M, G, ρ, μ, r, μ', s, rr, e, q⟩ := q
  simp only [evE] at e
  obtain ⟨⟨v1, μ1⟩, e1, e⟩ := bnd e
  obtain ⟨⟨v2, μ2⟩, e2, e⟩ := bnd e
  obtain ⟨⟨k1, μ3⟩, e3, e⟩ := bnd e
  obtain ⟨d1, d2, z, g1, g2, g3, gz, rfl⟩ := rd2_some (toB_some e3)
  cases gz
  refine tv_go s rr e1 fun x H1 G1 l1 s1 n1 r1 => tv_go s1 (rr.mono l1) e2 fun y H2 G2 l2 s2 n2 r2 => ?_
  refine ⟨Fr, M, G2, _, v1, v2, d1, d2, _, s2, r1.mono l2, r2, g1, g2, g3, fun v H3 G3 l3 s3 r3 => ?_⟩
  cases r3
  refine ⟨k1, rfl, ?_⟩
  cases k1 with
  | true =>
    rw [if_pos rfl] at e ⊢
    obtain ⟨⟨v4, μ4⟩, e4, e⟩ := bnd e
    obtain ⟨d3, d4, z2, g4, g5, g6, rfl, rfl⟩ := rd2_some e
    refine tv_go s3 (rr.mono (l1.trans (l2.trans l3))) e4 fun w H4 G4 l4 s4 n4 r4 => ?_
    exact ⟨Fr, M, G4, _, v2, v4, d3, d4, z2, s4, r2.mono (l3.trans l4), r4, g4, g5, g6, fun u H5 G5 l5 s5 r5 => q u H5 G5 (l1.trans (l2.trans (l3.trans (l4.trans l5)))) s5 (n4.trans (n2.trans n1)) (.d r5)⟩
  | false =>
    rw [if_neg Bool.false_ne_true] at e ⊢
    cases e
    exact q _ H3 G3 (l1.trans (l2.trans l3)) s3 (n2.trans n1) (.d (.bl _))
theorem snd_chn (g : Good X S O c C k F) {a b d : Expr} {ma mb md : E} {o p : COp} {pos : Pos} (ha : PE X a (tv X.K S O (evE C F ma))) (hb : PE X b (tv X.K S O (evE C F mb))) (hd : PE X d (tv X.K S O (evE C F md))) (pd : plainX d = true) :
    PE X (.Compare a [o.op, p.op] [b, d] pos) (tv X.K S O (evE C F (.chn o p ma mb md))) :=
  (pe_chain (op_cmp g.hu o) (op_cmp g.hu p) ha hb hd (mark_of (o := p.op) pd)).wk fun σ H Q q => chn_go (a := a) (b := b) (d := d) q
theorem chn_bool {ma mb md : E} {o p : COp} {ρ : Rho} {μ μ' : Store} {v : Val} (e : evE C F (.chn o p ma mb md) ρ μ = some (v, μ')) : ∃ b, v = .d (.bool b) := by
  simp only [evE] at e
  obtain ⟨⟨v1, μ1⟩, e1, e⟩ := bnd e
  obtain ⟨⟨v2, μ2⟩, e2, e⟩ := bnd e
  obtain ⟨⟨k1, μ3⟩, e3, e⟩ := bnd e
  cases k1 with
  | true =>
    rw [if_pos rfl] at e
    obtain ⟨⟨v4, μ4⟩, e4, e⟩ := bnd e
    obtain ⟨d3, d4, z2, g4, g5, g6, rfl, rfl⟩ := rd2_some e
    obtain ⟨b, rfl⟩ := cmpD_bool g6
    exact ⟨b, rfl⟩
  | false =>
    rw [if_neg Bool.false_ne_true] at e
    cases e
    exact ⟨_, rfl⟩
/-- a reading whose value is True or False, as a test -/
theorem tv_test {f : Rho → Store → Option (Val × Store)} (hb : ∀ ρ μ v μ', f ρ μ = some (v, μ') → ∃ b, v = .d (.bool b)) {K : PySem.W.Frag} {σ : L2.St} {H : Hp} {Q : Bool → Hp → Prop} (q : tvT K S O (fun ρ μ => toT (f ρ μ)) σ H Q) :
    tv K S O f σ H fun x H' => ∃ k, x = .bl k ∧ Q k H' := by
  obtain ⟨Fr, M, G, ρ, μ, r, μ', s, rr, e, q⟩ := q
  obtain ⟨⟨v, μ1⟩, e1, e⟩ := bnd e
  obtain ⟨x, e2, e⟩ := bnd e
  obtain ⟨b', e3, e⟩ := Option.map_eq_some_iff.mp e
  cases e
  obtain ⟨b, rfl⟩ := hb _ _ _ _ e1
  simp only [deref, Option.some.injEq] at e2
  subst e2
  cases e3
  refine tv_go s rr e1 fun v' H1 G1 l1 s1 n1 r1 => ?_
  cases r1 with
  | d r1 => cases r1; exact ⟨_, rfl, q H1 G1 l1 s1 n1⟩
theorem tst_chn (g : Good X S O c C k F) {a b d : Expr} {ma mb md : E} {o p : COp} {pos : Pos} (ha : PE X a (tv X.K S O (evE C F ma))) (hb : PE X b (tv X.K S O (evE C F mb))) (hd : PE X d (tv X.K S O (evE C F md))) (pd : plainX d = true) :
    PT X (.Compare a [o.op, p.op] [b, d] pos) (tvT X.K S O fun ρ μ => toT (evE C F (.chn o p ma mb md) ρ μ)) :=
  (pt_chain (op_cmp g.hu o) (op_cmp g.hu p) ha hb hd (mark_of (o := p.op) pd)).wk fun σ H Q q => chn_go (a := a) (b := b) (d := d) (tv_test (fun _ _ _ _ => chn_bool) q)
theorem noneV_iff {K : PySem.W.Frag} {M : Nat → Addr} {G : Hp} {v : V} {w : Val} (r : RV K S O M G v w) : decide (v = .non) = noneV w := by
  cases r with
  | d r => cases r <;> simp [noneV]
  | p i => simp [noneV]
  | c h => cases h; simp [noneV]
  | o h hc w => simp [noneV]
theorem isN_go {ma : E} {σ : L2.St} {H : Hp} {Q : V → Hp → Prop} (q : tv X.K S O (evE C F (.isN ma)) σ H Q) :
    tOp (fun x y H Q => y = .non ∧ Q (.bl (decide (x = .non))) H) (tv X.K S O (evE C F ma)) (tC .non) σ H Q := by
  obtain ⟨Fr, M, G, ρ, μ, r, μ', s, rr, e, q⟩ := q
  simp only [evE] at e
  obtain ⟨⟨v, μ1⟩, e1, e⟩ := bnd e
  cases e
  refine tv_go s rr e1 fun x H1 G1 l1 s1 n1 r1 => ⟨rfl, ?_⟩
  rw [noneV_iff r1]
  exact q _ H1 G1 l1 s1 n1 (.d (.bl _))
theorem notN_go {ma : E} {σ : L2.St} {H : Hp} {Q : V → Hp → Prop} (q : tv X.K S O (evE C F (.notN ma)) σ H Q) :
    tOp (fun x y H Q => y = .non ∧ Q (.bl (!decide (x = .non))) H) (tv X.K S O (evE C F ma)) (tC .non) σ H Q := by
  obtain ⟨Fr, M, G, ρ, μ, r, μ', s, rr, e, q⟩ := q
  simp only [evE] at e
  obtain ⟨⟨v, μ1⟩, e1, e⟩ := bnd e
  cases e
  refine tv_go s rr e1 fun x H1 G1 l1 s1 n1 r1 => ⟨rfl, ?_⟩
  rw [noneV_iff r1]
  exact q _ H1 G1 l1 s1 n1 (.d (.bl _))
theorem snd_isN {a : Expr} {ma : E} {j : Nat} {p pos : Pos} (ha : PE X a (tv X.K S O (evE C F ma))) : PE X (.Compare a [.Is] [.Constant .none j p] pos) (tv X.K S O (evE C F (.isN ma))) :=
  (pe_cmpR op_isN ha pe_non (nomark _)).wk fun σ H Q q => isN_go q
theorem snd_notN {a : Expr} {ma : E} {j : Nat} {p pos : Pos} (ha : PE X a (tv X.K S O (evE C F ma))) : PE X (.Compare a [.IsNot] [.Constant .none j p] pos) (tv X.K S O (evE C F (.notN ma))) :=
  (pe_cmpR op_notN ha pe_non (nomark _)).wk fun σ H Q q => notN_go q
theorem isN_bool {ma : E} {ρ : Rho} {μ μ' : Store} {v : Val} (e : evE C F (.isN ma) ρ μ = some (v, μ')) : ∃ b, v = .d (.bool b) := by
  simp only [evE] at e
  obtain ⟨⟨v, μ1⟩, e1, e⟩ := bnd e
  cases e
  exact ⟨_, rfl⟩
theorem notN_bool {ma : E} {ρ : Rho} {μ μ' : Store} {v : Val} (e : evE C F (.notN ma) ρ μ = some (v, μ')) : ∃ b, v = .d (.bool b) := by
  simp only [evE] at e
  obtain ⟨⟨v, μ1⟩, e1, e⟩ := bnd e
  cases e
  exact ⟨_, rfl⟩
theorem tst_isN {a : Expr} {ma : E} {j : Nat} {p pos : Pos} (ha : PE X a (tv X.K S O (evE C F ma))) : PT X (.Compare a [.Is] [.Constant .none j p] pos) (tvT X.K S O fun ρ μ => toT (evE C F (.isN ma) ρ μ)) :=
  (pt_cmpR op_isN ha pe_non (nomark _)).wk fun σ H Q q => isN_go (tv_test (fun _ _ _ _ => isN_bool) q)
theorem tst_notN {a : Expr} {ma : E} {j : Nat} {p pos : Pos} (ha : PE X a (tv X.K S O (evE C F ma))) : PT X (.Compare a [.IsNot] [.Constant .none j p] pos) (tvT X.K S O fun ρ μ => toT (evE C F (.notN ma) ρ μ)) :=
  (pt_cmpR op_notN ha pe_non (nomark _)).wk fun σ H Q q => notN_go (tv_test (fun _ _ _ _ => notN_bool) q)
theorem isT_op (n : Bool) : OpR X (compareOp (if n then .IsNot else .Is)) (fun x y H Q => ∃ a b, x = .bl a ∧ y = .bl b ∧ Q (.bl (n ^^ decide (a = b))) H) := by
  cases n with
  | false =>
    intro pins s σ H x y v u Q I rx ry ⟨a, b, h1, h2, q⟩
    exact op_is_bl pins s σ H x y v u Q I rx ry ⟨a, b, h1, h2, by simpa using q⟩
  | true =>
    intro pins s σ H x y v u Q I rx ry ⟨a, b, h1, h2, q⟩
    exact op_isnot_bl pins s σ H x y v u Q I rx ry ⟨a, b, h1, h2, by simpa using q⟩
theorem isT_go {k n : Bool} {ma : E} {σ : L2.St} {H : Hp} {Q : V → Hp → Prop} (q : tv X.K S O (evE C F (.isT k n ma)) σ H Q) :
    tOp (fun x y H Q => ∃ a b, x = .bl a ∧ y = .bl b ∧ Q (.bl (n ^^ decide (a = b))) H) (tv X.K S O (evE C F ma)) (tC (.bl k)) σ H Q := by
  obtain ⟨Fr, M, G, ρ, μ, r, μ', s, rr, e, q⟩ := q
  simp only [evE] at e
  obtain ⟨⟨b, μ1⟩, e1, e⟩ := bnd e
  obtain ⟨⟨v, μ2⟩, e2, e3⟩ := bnd e1
  dsimp only at e3
  split at e3
  rotate_left
  · cases e3
  cases e3
  cases e
  refine tv_go s rr e2 fun x H1 G1 l1 s1 n1 r1 => ?_
  cases r1 with
  | d r1 => cases r1; exact ⟨_, _, rfl, rfl, q _ H1 G1 l1 s1 n1 (.d (.bl _))⟩
theorem isT_bool {k n : Bool} {ma : E} {ρ : Rho} {μ μ' : Store} {v : Val} (e : evE C F (.isT k n ma) ρ μ = some (v, μ')) : ∃ b, v = .d (.bool b) := by
  simp only [evE] at e
  obtain ⟨⟨v, μ1⟩, e1, e⟩ := bnd e
  cases e
  exact ⟨_, rfl⟩
theorem snd_isT {k n : Bool} {a : Expr} {ma : E} {j : Nat} {p pos : Pos} (ha : PE X a (tv X.K S O (evE C F ma))) : PE X (.Compare a [if n then .IsNot else .Is] [.Constant (.bool k) j p] pos) (tv X.K S O (evE C F (.isT k n ma))) :=
  (pe_cmpR (isT_op n) ha pe_bl (nomark _ (h := by cases n <;> decide) (h2 := by cases n <;> decide))).wk fun σ H Q q => isT_go q
theorem tst_isT {k n : Bool} {a : Expr} {ma : E} {j : Nat} {p pos : Pos} (ha : PE X a (tv X.K S O (evE C F ma))) : PT X (.Compare a [if n then .IsNot else .Is] [.Constant (.bool k) j p] pos) (tvT X.K S O fun ρ μ => toT (evE C F (.isT k n ma) ρ μ)) :=
  (pt_cmpR (isT_op n) ha pe_bl (nomark _ (h := by cases n <;> decide) (h2 := by cases n <;> decide))).wk fun σ H Q q => isT_go (tv_test (fun _ _ _ _ => isT_bool) q)
theorem snd_neg {a : Expr} {ma : E} {pos : Pos} (ha : PE X a (tv X.K S O (evE C F ma))) : PE X (.UnaryOp .USub a pos) (tv X.K S O (evE C F (.neg ma))) := by
  refine (pe_un un_neg ha).wk fun σ H Q q => ?_
  obtain ⟨Fr, M, G, ρ, μ, r, μ', s, rr, e, q⟩ := q
  simp only [evE] at e
  obtain ⟨⟨i, μ1⟩, e1, e⟩ := bnd e
  cases e
  refine tv_go s rr (toI_some e1) fun x H1 G1 l1 s1 n1 r1 => ?_
  cases r1 with
  | d r1 => cases r1; exact ⟨i, rfl, q _ H1 G1 l1 s1 n1 (.d (.int _))⟩
theorem snd_inot {a : Expr} {ma : E} {pos : Pos} (ha : PE X a (tv X.K S O (evE C F ma))) : PE X (.UnaryOp .Not a pos) (tv X.K S O (evE C F (.inot ma))) := by
  refine (pe_notT ha).wk fun σ H Q q => ?_
  obtain ⟨Fr, M, G, ρ, μ, r, μ', s, rr, e, q⟩ := q
  simp only [evE] at e
  obtain ⟨⟨b, μ1⟩, e1, e⟩ := bnd e
  cases e
  obtain ⟨⟨v, μ2⟩, e2, e1⟩ := bnd e1
  obtain ⟨x, e3, e1⟩ := bnd e1
  obtain ⟨b', e4, e1⟩ := Option.map_eq_some_iff.mp e1
  cases e1
  exact tv_go s rr e2 fun x H1 G1 l1 s1 n1 r1 => ⟨_, truV_of s1 r1 e3 e4, q _ H1 G1 l1 s1 n1 (.d (.bl _))⟩
theorem tst_inot {a : Expr} {ma : E} {pos : Pos} (ha : PT X a (tvT X.K S O fun ρ μ => toT (evE C F ma ρ μ))) : PT X (.UnaryOp .Not a pos) (tvT X.K S O fun ρ μ => toT (evE C F (.inot ma) ρ μ)) := by
  refine (pt_not ha).wk fun σ H Q q => ?_
  obtain ⟨Fr, M, G, ρ, μ, r, μ', s, rr, e, q⟩ := q
  simp only [evE] at e
  obtain ⟨⟨v, μ1⟩, e1, e⟩ := bnd e
  obtain ⟨⟨b, μ2⟩, e2, e1⟩ := bnd e1
  cases e1
  cases e
  exact ⟨Fr, M, G, ρ, μ, b, μ2, s, rr, e2, q⟩
theorem snd_ite {d a b : Expr} {md ma mb : E} {pos : Pos} (hd : PT X d (tvT X.K S O fun ρ μ => toT (evE C F md ρ μ))) (ha : PE X a (tv X.K S O (evE C F ma))) (hb : PE X b (tv X.K S O (evE C F mb))) : PE X (.IfExp d a b pos) (tv X.K S O (evE C F (.ite md ma mb))) := by
  refine (pe_ifExp hd ha hb).wk fun σ H Q q => ?_
  obtain ⟨Fr, M, G, ρ, μ, r, μ', s, rr, e, q⟩ := q
  simp only [evE] at e
  obtain ⟨⟨b, μ1⟩, e1, e⟩ := bnd e
  refine ⟨Fr, M, G, ρ, μ, b, μ1, s, rr, e1, fun H1 G1 l1 s1 n1 => ?_⟩
  cases b with
  | true =>
    rw [if_pos rfl] at e ⊢
    exact tv_go s1 (rr.mono l1) e fun v H2 G2 l2 s2 n2 r2 => q v H2 G2 (l1.trans l2) s2 (n2.trans n1) r2
  | false =>
    rw [if_neg Bool.false_ne_true] at e ⊢
    exact tv_go s1 (rr.mono l1) e fun v H2 G2 l2 s2 n2 r2 => q v H2 G2 (l1.trans l2) s2 (n2.trans n1) r2
theorem snd_idx {a b : Expr} {ma mb : E} {pos : Pos} (ha : PE X a (tv X.K S O (evE C F ma))) (hb : PE X b (tv X.K S O (evE C F mb))) (pb : plainX b = true) : PE X (.Subscript a b pos) (tv X.K S O (evE C F (.idx ma mb))) := by
  refine (pe_ix op_idx ha hb (plainIx_of pb)).wk fun σ H Q q => tv_bin ?_
  obtain ⟨Fr, M, G, ρ, μ, r, μ', s, rr, e, q⟩ := q
  exact ⟨Fr, M, G, ρ, μ, r, μ', s, rr, by simpa only [evE] using e, q⟩
theorem snd_oe_no : PO X none (tvO X.K S O (evO C F .no)) := by
  refine PO.wk po_none fun σ H Q q => ?_
  obtain ⟨Fr, M, G, ρ, μ, r, μ', s, rr, e, q⟩ := q
  simp only [evO] at e
  cases e
  exact q H G (Le.rfl' _) s rfl
theorem snd_oe_so {a : Expr} {ma : E} (ha : PE X a (tv X.K S O (evE C F ma))) : PO X (some a) (tvO X.K S O (evO C F (.so ma))) := by
  refine PO.wk (po_some ha) fun σ H Q q => ?_
  obtain ⟨Fr, M, G, ρ, μ, r, μ', s, rr, e, q⟩ := q
  simp only [evO] at e
  obtain ⟨⟨i, μ1⟩, e1, e⟩ := bnd e
  cases e
  refine tv_go s rr (toI_some e1) fun x H1 G1 l1 s1 n1 r1 => ?_
  cases r1 with
  | d r1 => cases r1; exact ⟨i, rfl, q H1 G1 l1 s1 n1⟩
theorem snd_sli {a : Expr} {lo hi : Option Expr} {ma : E} {ml mh : Oe} {p pos : Pos} (ha : PE X a (tv X.K S O (evE C F ma))) (hl : PO X lo (tvO X.K S O (evO C F ml))) (hh : PO X hi (tvO X.K S O (evO C F mh))) :
    PE X (.Subscript a (.Slice lo hi none p) pos) (tv X.K S O (evE C F (.sli ma ml mh))) := by
  refine (pe_slice (op_sli (S := S) (O := O)) ha hl hh).wk fun σ H Q q => ?_
  obtain ⟨Fr, M, G, ρ, μ, r, μ', s, rr, e, q⟩ := q
  simp only [evE] at e
  obtain ⟨⟨v, μ1⟩, e1, e⟩ := bnd e
  obtain ⟨⟨l, μ2⟩, e2, e⟩ := bnd e
  obtain ⟨⟨h, μ3⟩, e3, e⟩ := bnd e
  obtain ⟨x, z, g1, g2, rfl, rfl⟩ := rd1_some e
  refine tv_go s rr e1 fun x H1 G1 l1 s1 n1 r1 => ⟨Fr, M, G1, ρ, μ1, l, μ2, s1, rr.mono l1, e2, fun H2 G2 l2 s2 n2 => ⟨Fr, M, G2, ρ, μ2, h, _, s2, rr.mono (l1.trans l2), e3, fun H3 G3 l3 s3 n3 => ?_⟩⟩
  exact ⟨Fr, M, G3, _, v, _, z, s3, r1.mono (l2.trans l3), g1, g2, fun u H4 G4 l4 s4 r4 => q u H4 G4 (l1.trans (l2.trans (l3.trans l4))) s4 (n3.trans (n2.trans n1)) (.d r4)⟩

/-! ### and, or -/
theorem snd_and1 {a : Expr} {ma : E} {pos : Pos} (ha : PE X a (tv X.K S O (evE C F ma))) : PE X (.BoolOp .And [a] pos) (tv X.K S O fun ρ μ => (evAnd C F (.cons ma .nil) ρ μ).map fun (b, μ1) => (.d (.bool b), μ1)) := by
  refine (pe_one ha).wk fun σ H Q q => ?_
  obtain ⟨Fr, M, G, ρ, μ, r, μ', s, rr, e, q⟩ := q
  obtain ⟨⟨b, μ1⟩, e1, e⟩ := Option.map_eq_some_iff.mp e
  cases e
  simp only [evAnd] at e1
  exact tv_go s rr (toB_some e1) q
theorem snd_or1 {a : Expr} {ma : E} {pos : Pos} (ha : PE X a (tv X.K S O (evE C F ma))) : PE X (.BoolOp .Or [a] pos) (tv X.K S O fun ρ μ => (evOr C F (.cons ma .nil) ρ μ).map fun (b, μ1) => (.d (.bool b), μ1)) := by
  refine (pe_one ha).wk fun σ H Q q => ?_
  obtain ⟨Fr, M, G, ρ, μ, r, μ', s, rr, e, q⟩ := q
  obtain ⟨⟨b, μ1⟩, e1, e⟩ := Option.map_eq_some_iff.mp e
  cases e
  simp only [evOr] at e1
  exact tv_go s rr (toB_some e1) q
theorem snd_and2 {a b : Expr} {ma mb : E} {rest : List Expr} {es : Es} {pos : Pos} (ha : PE X a (tv X.K S O (evE C F ma)))
    (hb : PE X (.BoolOp .And (b :: rest) pos) (tv X.K S O fun ρ μ => (evAnd C F (.cons mb es) ρ μ).map fun (b, μ1) => (.d (.bool b), μ1))) :
    PE X (.BoolOp .And (a :: b :: rest) pos) (tv X.K S O fun ρ μ => (evAnd C F (.cons ma (.cons mb es)) ρ μ).map fun (b, μ1) => (.d (.bool b), μ1)) := by
  refine (pe_and ha hb).wk fun σ H Q q => ?_
  obtain ⟨Fr, M, G, ρ, μ, r, μ', s, rr, e, q⟩ := q
  obtain ⟨⟨b, μ1⟩, e1, e⟩ := Option.map_eq_some_iff.mp e
  cases e
  rw [evAnd] at e1
  obtain ⟨⟨b1, μ2⟩, e2, e1⟩ := bnd e1
  try dsimp only at e1
  refine tv_go s rr (toB_some e2) fun x H1 G1 l1 s1 n1 r1 => ?_
  cases r1 with
  | d r1 =>
    cases r1
    refine ⟨b1, rfl, ?_⟩
    cases b1 with
    | true =>
      rw [if_pos rfl] at e1 ⊢
      exact tv_go s1 (rr.mono l1) (by show Option.map _ (evAnd C F (.cons mb es) ρ μ2) = _; rw [e1]; rfl) fun v H2 G2 l2 s2 n2 r2 => q v H2 G2 (l1.trans l2) s2 (n2.trans n1) r2
    | false =>
      rw [if_neg Bool.false_ne_true] at e1 ⊢
      cases e1
      exact q _ H1 G1 l1 s1 n1 (.d (.bl _))
theorem snd_or2 {a b : Expr} {ma mb : E} {rest : List Expr} {es : Es} {pos : Pos} (ha : PE X a (tv X.K S O (evE C F ma)))
    (hb : PE X (.BoolOp .Or (b :: rest) pos) (tv X.K S O fun ρ μ => (evOr C F (.cons mb es) ρ μ).map fun (b, μ1) => (.d (.bool b), μ1))) :
    PE X (.BoolOp .Or (a :: b :: rest) pos) (tv X.K S O fun ρ μ => (evOr C F (.cons ma (.cons mb es)) ρ μ).map fun (b, μ1) => (.d (.bool b), μ1)) := by
  refine (pe_or ha hb).wk fun σ H Q q => ?_
  obtain ⟨Fr, M, G, ρ, μ, r, μ', s, rr, e, q⟩ := q
  obtain ⟨⟨b, μ1⟩, e1, e⟩ := Option.map_eq_some_iff.mp e
  cases e
  rw [evOr] at e1
  obtain ⟨⟨b1, μ2⟩, e2, e1⟩ := bnd e1
  try dsimp only at e1
  refine tv_go s rr (toB_some e2) fun x H1 G1 l1 s1 n1 r1 => ?_
  cases r1 with
  | d r1 =>
    cases r1
    refine ⟨b1, rfl, ?_⟩
    cases b1 with
    | true =>
      rw [if_pos rfl] at e1 ⊢
      cases e1
      exact q _ H1 G1 l1 s1 n1 (.d (.bl _))
    | false =>
      rw [if_neg Bool.false_ne_true] at e1 ⊢
      exact tv_go s1 (rr.mono l1) (by show Option.map _ (evOr C F (.cons mb es) ρ μ2) = _; rw [e1]; rfl) fun v H2 G2 l2 s2 n2 r2 => q v H2 G2 (l1.trans l2) s2 (n2.trans n1) r2
theorem tvT_B {ma : E} {K : PySem.W.Frag} {σ : L2.St} {H : Hp} {Q : Bool → Hp → Prop} {Fr : Hp} {M : Nat → Addr} {G : Hp} {ρ : Rho} {μ μ' : Store} {b : Bool} (s : SS K S Fr M G H μ) (rr : RR K S O M G ρ σ) (e : toB (evE C F ma ρ μ) = some (b, μ'))
    (q : ∀ H' G', Le G G' → SS K S Fr M G' H' μ' → μ'.length = μ.length → Q b H') : tvT K S O (fun ρ μ => toT (evE C F ma ρ μ)) σ H Q := ⟨Fr, M, G, ρ, μ, b, μ', s, rr, toT_of_toB e, q⟩
theorem tst_and1 {a : Expr} {ma : E} {pos : Pos} (ha : PT X a (tvT X.K S O fun ρ μ => toT (evE C F ma ρ μ))) : PW X (.BoolOp .And [a] pos) (tvT X.K S O (evAnd C F (.cons ma .nil))) := by
  refine (pw_and1 ha).wk fun σ H Q q => ?_
  obtain ⟨Fr, M, G, ρ, μ, r, μ', s, rr, e, q⟩ := q
  simp only [evAnd] at e
  exact tvT_B s rr e q
theorem tst_or1 {a : Expr} {ma : E} {pos : Pos} (ha : PT X a (tvT X.K S O fun ρ μ => toT (evE C F ma ρ μ))) : PW X (.BoolOp .Or [a] pos) (tvT X.K S O (evOr C F (.cons ma .nil))) := by
  refine (pw_or1 ha).wk fun σ H Q q => ?_
  obtain ⟨Fr, M, G, ρ, μ, r, μ', s, rr, e, q⟩ := q
  simp only [evOr] at e
  exact tvT_B s rr e q
theorem tst_and2 {a b : Expr} {ma mb : E} {rest : List Expr} {es : Es} {pos : Pos} (ha : PT X a (tvT X.K S O fun ρ μ => toT (evE C F ma ρ μ))) (hb : PW X (.BoolOp .And (b :: rest) pos) (tvT X.K S O (evAnd C F (.cons mb es)))) :
    PW X (.BoolOp .And (a :: b :: rest) pos) (tvT X.K S O (evAnd C F (.cons ma (.cons mb es)))) := by
  refine (pw_and ha hb).wk fun σ H Q q => ?_
  obtain ⟨Fr, M, G, ρ, μ, r, μ', s, rr, e, q⟩ := q
  rw [evAnd] at e
  obtain ⟨⟨b1, μ2⟩, e2, e⟩ := bnd e
  try dsimp only at e
  refine tvT_B s rr e2 fun H1 G1 l1 s1 n1 => ?_
  cases b1 with
  | true =>
    rw [if_pos rfl] at e ⊢
    exact tvT_go s1 (rr.mono l1) e fun H2 G2 l2 s2 n2 => q H2 G2 (l1.trans l2) s2 (n2.trans n1)
  | false =>
    rw [if_neg Bool.false_ne_true] at e ⊢
    cases e
    exact q H1 G1 l1 s1 n1
theorem tst_or2 {a b : Expr} {ma mb : E} {rest : List Expr} {es : Es} {pos : Pos} (ha : PT X a (tvT X.K S O fun ρ μ => toT (evE C F ma ρ μ))) (hb : PW X (.BoolOp .Or (b :: rest) pos) (tvT X.K S O (evOr C F (.cons mb es)))) :
    PW X (.BoolOp .Or (a :: b :: rest) pos) (tvT X.K S O (evOr C F (.cons ma (.cons mb es)))) := by
  refine (pw_or ha hb).wk fun σ H Q q => ?_
  obtain ⟨Fr, M, G, ρ, μ, r, μ', s, rr, e, q⟩ := q
  rw [evOr] at e
  obtain ⟨⟨b1, μ2⟩, e2, e⟩ := bnd e
  try dsimp only at e
  refine tvT_B s rr e2 fun H1 G1 l1 s1 n1 => ?_
  cases b1 with
  | true =>
    rw [if_pos rfl] at e ⊢
    cases e
    exact q H1 G1 l1 s1 n1
  | false =>
    rw [if_neg Bool.false_ne_true] at e ⊢
    exact tvT_go s1 (rr.mono l1) e fun H2 G2 l2 s2 n2 => q H2 G2 (l1.trans l2) s2 (n2.trans n1)
theorem tvT_map {K : PySem.W.Frag} {f : Rho → Store → Option (Bool × Store)} {σ : L2.St} {H : Hp} {Q : Bool → Hp → Prop} (q : tvT K S O (fun ρ μ => toT ((f ρ μ).map fun (b, μ1) => (Val.d (.bool b), μ1))) σ H Q) : tvT K S O f σ H Q := by
  obtain ⟨Fr, M, G, ρ, μ, r, μ', s, rr, e, q⟩ := q
  obtain ⟨⟨v, μ1⟩, e1, e⟩ := bnd e
  obtain ⟨⟨b, μ2⟩, e2, e1⟩ := Option.map_eq_some_iff.mp e1
  cases e1
  cases e
  exact ⟨Fr, M, G, ρ, μ, _, _, s, rr, e2, q⟩

/-! ### calls -/
theorem boot_all (b : BI) : bootBuiltins (b.nm : Str) = some b.fv := by
  cases b <;> decide +kernel
theorem boot_cls (k : Cls) : bootBuiltins (k.ty : Str) = some (.type k.ty) := by
  cases k <;> decide +kernel
theorem nm_in (b : BI) : bltNames.contains b.nm = true := by cases b <;> decide
theorem cls_in (k : Cls) : bltNames.contains k.ty = true := by cases k <;> decide
theorem nm_name (b : BI) : (b.nm : Str) ≠ "__name__" := by cases b <;> decide +kernel
theorem cls_name (b : Cls) : (b.ty : Str) ≠ "__name__" := by cases b <;> decide +kernel
theorem arg1 {f : Rho → Store → Option (Val × Store)} {r : V → Hp → VK → Prop} {σ : L2.St} {H : Hp} {Q : VK} (h : tUn r (tv X.K S O f) σ H Q) : tCB (fun vs H Q => ∃ x, vs = [x] ∧ r x H Q) (tCons (tv X.K S O f) tNil) σ H Q := by
  obtain ⟨Fr, M, G, ρ, μ, w, μ', s, rr, e, q⟩ := h
  exact ⟨Fr, M, G, ρ, μ, w, μ', s, rr, e, fun v H1 G1 l1 s1 n1 r1 => ⟨v, rfl, q v H1 G1 l1 s1 n1 r1⟩⟩
theorem un_go {f : Rho → Store → Option (Val × Store)} {g : D → Option D} {K : PySem.W.Frag} {σ : L2.St} {H : Hp} {Q : VK} (h : tv K S O (fun ρ μ => (f ρ μ).bind fun (v, μ1) => rd1 μ1 v g) σ H Q) : tUn (rd1R K S O g) (tv K S O f) σ H Q := by
  obtain ⟨Fr, M, G, ρ, μ, r, μ', s, rr, e, q⟩ := h
  obtain ⟨⟨v, μ1⟩, e1, e⟩ := bnd e
  obtain ⟨x, z, g1, g2, rfl, rfl⟩ := rd1_some e
  exact tv_go s rr e1 fun x H1 G1 l1 s1 n1 r1 => ⟨Fr, M, G1, _, v, _, z, s1, r1, g1, g2, fun u H2 G2 l2 s2 r2 => q u H2 G2 (l1.trans l2) s2 n1 (.d r2)⟩
theorem snd_bi (g : Good X S O c C k F) {a : Expr} {ma : E} {b : BI} {p pos : Pos} (hg : glB X.env.scope (b.nm : Str) = true) (ha : PE X a (tv X.K S O (evE C F ma))) (pa : plainX a = true) : PE X (.Call (.Name (b.nm : Str) p) [a] [] pos) (tv X.K S O (evE C F (.bi b ma))) := by
  obtain ⟨h1, h2⟩ := g.gl hg
  have hm := blt_of g b.nm (nm_in b)
  have hs : starEach (a :: []) X.env = (false, eval a X.env) :: starEach [] X.env := star_of pa
  have main : PE X (.Call (.Name (b.nm : Str) p) [a] [] pos) (tCB (fun vs H Q => ∃ x, vs = [x] ∧ rd1R X.K S O (biD b) x H Q) (tCons (tv X.K S O (evE C F ma)) tNil)) := by
    have hb := boot_all b
    have hc := call_bi (X := X) g b
    have hn := nm_name b
    cases b with
    | tup => exact pe_callTy hc h1 hm hb (pa_cons ha pa_nil hs) hn h2 hs rfl
    | lst => exact pe_callTy hc h1 hm hb (pa_cons ha pa_nil hs) hn h2 hs rfl
    | int => exact pe_callTy hc h1 hm hb (pa_cons ha pa_nil hs) hn h2 hs rfl
    | bool => exact pe_callTy hc h1 hm hb (pa_cons ha pa_nil hs) hn h2 hs rfl
    | _ => exact pe_callB hc h1 hm hb (pa_cons ha pa_nil hs) hn h2 hs rfl
  refine main.wk fun σ H Q q => arg1 (un_go ?_)
  obtain ⟨Fr, M, G, ρ, μ, r, μ', s, rr, e, q⟩ := q
  exact ⟨Fr, M, G, ρ, μ, r, μ', s, rr, by simpa only [evE] using e, q⟩
theorem snd_isi (g : Good X S O c C k F) {a : Expr} {ma : E} {t : Cls} {p p2 pos : Pos} (hg : glB X.env.scope ("isinstance" : Str) = true) (hg2 : glB X.env.scope (t.ty : Str) = true) (ha : PE X a (tv X.K S O (evE C F ma))) (pa : plainX a = true) :
    PE X (.Call (.Name "isinstance" p) [a, .Name (t.ty : Str) p2] [] pos) (tv X.K S O (evE C F (.isi ma t))) := by
  obtain ⟨h1, h2⟩ := g.gl hg
  obtain ⟨h3, h4⟩ := g.gl hg2
  have hs : starEach (a :: [.Name (t.ty : Str) p2]) X.env = (false, eval a X.env) :: starEach [.Name (t.ty : Str) p2] X.env := star_of pa
  refine (pe_callB (call_isiD t) h1 (blt_of g "isinstance" (by decide)) (by decide +kernel) (pa_cons ha (pa_cons (pe_bltn h3 (blt_of g t.ty (cls_in t)) (boot_cls t) (v := .ty t.ty) rfl (cls_name t) h4) pa_nil) hs) (by decide) h2 hs rfl).wk fun σ H Q q => ?_
  obtain ⟨Fr, M, G, ρ, μ, r, μ', s, rr, e, q⟩ := q
  simp only [evE] at e
  obtain ⟨⟨v, μ1⟩, e1, e⟩ := bnd e
  obtain ⟨x, z, g1, g2, rfl, rfl⟩ := rd1_some e
  cases g2
  exact tv_go s rr e1 fun y H1 G1 l1 s1 n1 r1 => ⟨y, x, rfl, s1.rd r1 g1, q _ H1 G1 l1 s1 n1 (.d (.bl _))⟩
theorem snd_call (g : Good X S O c C k F) {ls : List Expr} {es : Es} {f : Nat} {x : Str} {p pos : Pos} (hg : glB X.env.scope x = true) (hf : c.fns[f]? = some x) (hb : f < mB) (ha : PA X ls (tvV X.K S O (evVs C F es))) (pl : ∀ e ∈ ls, plainX e = true) (hl : es.len = ls.length) :
    PE X (.Call (.Name x p) ls [] pos) (tv X.K S O (evE C F (.call f es))) := by
  obtain ⟨h1, h2⟩ := g.gl hg
  refine ⟨fun pins s σ H Q I h => ?_⟩
  obtain ⟨Fr, M, G, ρ, μ, r, μ', ss, rr, e, q⟩ := h
  simp only [evE] at e
  obtain ⟨⟨ws, μ1⟩, e1, e⟩ := bnd e
  obtain ⟨fa, hm, hk, run⟩ := g.calls.1 f x ws μ1 r μ' hf hb e
  have fin : ∀ (us : List Value) (vs : List V) (s1 : Shared) (H1 G1 : Hp), Inv X pins σ H1 s1 → Vals vs us → Le G G1 → SS X.K S Fr M G1 H1 μ1 → μ1.length = μ.length → RVs X.K S O M G1 vs ws →
      wpAny (model X.prog X.w) X.A (call (.ref fa) us) (EP X pins σ Q) X.xe s1 := fun us vs s1 H1 G1 I1 rv l1 s1' n1 r1 => by
    have rn := run X.A X.stack s1 H1 us vs Q Fr M G1 g.room g.grd I1.env0 rv s1' (r1.out (g.calls.args e)) fun v H2 G2 l2 s2 n2 r2 => q v H2 G2 (l1.trans l2) s2 (n2.trans n1) r2.any
    refine wpAny_call (codeAny_mono rn fun res s' hq => ?_)
    cases res with
    | error er => exact False.elim hq
    | ok fl =>
      cases fl with
      | ret u => exact I1.after hq
      | next => exact False.elim hq
      | brk => exact False.elim hq
      | cont => exact False.elim hq
  refine wpAny_Call_Name_kw (ld_glob I h1 hm ?_ h2)
  cases ls with
  | nil =>
    cases es with
    | cons m es => simp [Es.len] at hl
    | nil =>
      simp only [evVs] at e1
      cases e1
      exact PySem.W.callWith_K0 I.kIn hk (fin [] [] s H G I .nil (Le.rfl' _) ss rfl .nil)
  | cons a ls =>
    have hs : starEach (a :: ls) X.env = (false, eval a X.env) :: starEach ls X.env := star_of (pl a List.mem_cons_self)
    refine PySem.W.callWith_K (h₀ := X.base) I.ok.mod.kin hk (thn (ha.run pos pins s σ H _ I ⟨Fr, M, G, ρ, μ, ws, μ1, ss, rr, e1, fun vs H' G' a b c d => (⟨G', a, b, c, d⟩ : ∃ G', Le G G' ∧ SS X.K S Fr M G' H' μ1 ∧ μ1.length = μ.length ∧ RVs X.K S O M G' vs ws)⟩) fun us s1 hq => ?_) hs (star_any fun e he => pl e (List.mem_cons_of_mem _ he))
    obtain ⟨vs, H1, I1, rv, G1, l1, s1', n1, r1⟩ := hq
    exact ⟨I1.kIn, fin us vs s1 H1 G1 I1 rv l1 s1' n1 r1⟩
end Mu

/-! sets of tuples, sorted lists -/
namespace Mu
open PySem PySem.Spec
open PyProof.Rows L2

/-! ### tuples in order -/
abbrev cd (t : List Int) : Int := TS.code 1000000 t
def OkT (d : Nat) (t : List Int) : Prop := t.length = d ∧ TS.Bd 1000000 t
theorem code_mono : ∀ {a b : List Int}, a.length = b.length → TS.Bd 1000000 a → TS.Bd 1000000 b → ltT a b = true → cd a < cd b
  | [], _, _, _, _, h => by simp [ltT] at h
  | x :: a, [], hl, _, _, _ => by simp at hl
  | x :: a, y :: b, hl, ha, hb, h => by
    have hl2 : a.length = b.length := by simpa using hl
    obtain ⟨c0, c1⟩ := TS.code_bd a ha.tail
    obtain ⟨g0, g1⟩ := TS.code_bd b hb.tail
    show x * 1000000 ^ a.length + TS.code 1000000 a < y * 1000000 ^ b.length + TS.code 1000000 b
    unfold ltT at h
    split at h
    · rename_i c
      rw [← hl2]; exact TS.num2 c0 c1 g0 c
    · split at h
      · cases h
      · have e : x = y := by omega
        subst e
        have : TS.code 1000000 a < TS.code 1000000 b := code_mono hl2 ha.tail hb.tail h
        rw [hl2]; omega
theorem ltT_tri : ∀ {a b : List Int}, a.length = b.length → ltT a b = true ∨ a = b ∨ ltT b a = true
  | [], [], _ => .inr (.inl rfl)
  | [], _ :: _, h => by simp at h
  | _ :: _, [], h => by simp at h
  | x :: a, y :: b, h => by
    have hl : a.length = b.length := by simpa using h
    rcases Int.lt_trichotomy x y with c | c | c
    · left; simp [ltT, c]
    · subst c
      rcases ltT_tri hl with h | h | h
      · left; simp [ltT, h]
      · right; left; rw [h]
      · right; right; simp [ltT, h]
    · right; right
      simp [ltT, c]
theorem lt_code {d : Nat} {a b : List Int} (ha : OkT d a) (hb : OkT d b) : ltT a b = true ↔ cd a < cd b := by
  have hl : a.length = b.length := by rw [ha.1, hb.1]
  refine ⟨code_mono hl ha.2 hb.2, fun h => ?_⟩
  rcases ltT_tri hl with q | q | q
  · exact q
  · subst q; omega
  · have := code_mono hl.symm hb.2 ha.2 q; omega
theorem cd_inj {d : Nat} {a b : List Int} (ha : OkT d a) (hb : OkT d b) (h : cd a = cd b) : a = b := by
  have hl : a.length = b.length := by rw [ha.1, hb.1]
  rcases ltT_tri hl with q | q | q
  · have := code_mono hl ha.2 hb.2 q; omega
  · exact q
  · have := code_mono hl.symm hb.2 ha.2 q; omega
theorem mem_insT (k j : List Int) : ∀ l, j ∈ insT k l ↔ j = k ∨ j ∈ l
  | [] => by simp [insT]
  | x :: r => by
    unfold insT
    split
    · simp
    · split
      · rename_i h; subst h; simp
      · rw [List.mem_cons, mem_insT k j r, List.mem_cons]
        constructor
        · rintro (h | h | h)
          · exact .inr (.inl h)
          · exact .inl h
          · exact .inr (.inr h)
        · rintro (h | h | h)
          · exact .inr (.inl h)
          · exact .inl h
          · exact .inr (.inr h)
theorem mem_sortT (j : List Int) : ∀ ts, j ∈ sortT ts ↔ j ∈ ts
  | [] => by simp [sortT]
  | n :: ts => by
    show j ∈ insT n (sortT ts) ↔ _
    rw [mem_insT, mem_sortT j ts, List.mem_cons]
abbrev AscT (l : List (List Int)) : Prop := l.Pairwise fun a b => cd a < cd b
theorem asc_insT {d : Nat} {k : List Int} (hk : OkT d k) : ∀ l : List (List Int), (∀ t ∈ l, OkT d t) → AscT l → AscT (insT k l)
  | [], _, _ => by simp [insT, AscT]
  | x :: r, ho, h => by
    obtain ⟨h1, h2⟩ := List.pairwise_cons.mp h
    have hx := ho x List.mem_cons_self
    unfold insT
    split
    · rename_i c
      have c := (lt_code hk hx).mp c
      refine List.pairwise_cons.mpr ⟨fun y hy => ?_, h⟩
      rcases List.mem_cons.mp hy with e | e
      · rw [e]; exact c
      · have := h1 y e; omega
    · split
      · exact h
      · rename_i c c2
        have c3 : cd x < cd k := by
          rcases ltT_tri (a := k) (b := x) (by rw [hk.1, hx.1]) with q | q | q
          · exact absurd q c
          · exact absurd q c2
          · exact (lt_code hx hk).mp q
        refine List.pairwise_cons.mpr ⟨fun y hy => ?_, asc_insT hk r (fun t ht => ho t (List.mem_cons_of_mem _ ht)) h2⟩
        rcases (mem_insT k y r).mp hy with e | e
        · rw [e]; exact c3
        · exact h1 y e
theorem asc_sortT {d : Nat} : ∀ ts : List (List Int), (∀ t ∈ ts, OkT d t) → AscT (sortT ts)
  | [], _ => .nil
  | n :: ts, h => asc_insT (h n List.mem_cons_self) _ (fun t ht => h t (List.mem_cons_of_mem _ ((mem_sortT t ts).mp ht))) (asc_sortT ts fun t ht => h t (List.mem_cons_of_mem _ ht))
theorem ascT_ext : ∀ {a b : List (List Int)}, AscT a → AscT b → (∀ k, k ∈ a ↔ k ∈ b) → a = b
  | [], [], _, _, _ => rfl
  | [], y :: b, _, _, h => absurd ((h y).mpr List.mem_cons_self) (by simp)
  | x :: a, [], _, _, h => absurd ((h x).mp List.mem_cons_self) (by simp)
  | x :: a, y :: b, ha, hb, h => by
    obtain ⟨a1, a2⟩ := List.pairwise_cons.mp ha
    obtain ⟨b1, b2⟩ := List.pairwise_cons.mp hb
    have e : x = y := by
      rcases List.mem_cons.mp ((h x).mp List.mem_cons_self) with e | e
      · exact e
      · rcases List.mem_cons.mp ((h y).mpr List.mem_cons_self) with e2 | e2
        · exact e2.symm
        · have := b1 x e; have := a1 y e2; omega
    subst e
    congr 1
    refine ascT_ext a2 b2 fun k => ⟨fun hk => ?_, fun hk => ?_⟩
    · rcases List.mem_cons.mp ((h k).mp (List.mem_cons_of_mem _ hk)) with e | e
      · subst e; have := a1 k hk; omega
      · exact e
    · rcases List.mem_cons.mp ((h k).mpr (List.mem_cons_of_mem _ hk)) with e | e
      · subst e; have := b1 k hk; omega
      · exact e
/-! doubles kept -/
theorem perm_ext {α : Type} {le : α → α → Prop} : ∀ {a b : List α}, a.Pairwise le → b.Pairwise le → (∀ x ∈ a, ∀ y ∈ a, le x y → le y x → x = y) → a.Perm b → a = b
  | [], b, _, _, _, p => p.nil_eq
  | x :: a, [], _, _, _, p => by have := p.length_eq; simp at this
  | x :: a, y :: b, ha, hb, anti, p => by
    obtain ⟨a1, a2⟩ := List.pairwise_cons.mp ha
    obtain ⟨b1, b2⟩ := List.pairwise_cons.mp hb
    have hy : y ∈ x :: a := p.mem_iff.mpr List.mem_cons_self
    have e : x = y := by
      rcases List.mem_cons.mp hy with e | e
      · exact e.symm
      · rcases List.mem_cons.mp (p.mem_iff.mp List.mem_cons_self) with e2 | e2
        · exact e2
        · exact anti x List.mem_cons_self y hy (a1 y e) (b1 x e2)
    subst e
    congr 1
    exact perm_ext a2 b2 (fun u hu v hv => anti u (List.mem_cons_of_mem _ hu) v (List.mem_cons_of_mem _ hv)) p.cons_inv
theorem perm_insI (k : Int) : ∀ l, (insI k l).Perm (k :: l)
  | [] => .refl _
  | x :: r => by
    unfold insI
    split
    · exact .refl _
    · exact ((perm_insI k r).cons x).trans (.swap k x r)
theorem perm_sortI : ∀ ns, (sortI ns).Perm ns
  | [] => .refl _
  | n :: ns => (perm_insI n _).trans ((perm_sortI ns).cons n)
theorem le_insI (k : Int) : ∀ l : List Int, l.Pairwise (· ≤ ·) → (insI k l).Pairwise (· ≤ ·)
  | [], _ => by simp [insI]
  | x :: r, h => by
    obtain ⟨h1, h2⟩ := List.pairwise_cons.mp h
    unfold insI
    split
    · rename_i c
      refine List.pairwise_cons.mpr ⟨fun y hy => ?_, h⟩
      rcases List.mem_cons.mp hy with e | e
      · omega
      · have := h1 y e; omega
    · rename_i c
      refine List.pairwise_cons.mpr ⟨fun y hy => ?_, le_insI k r h2⟩
      rcases List.mem_cons.mp ((perm_insI k r).mem_iff.mp hy) with e | e
      · omega
      · exact h1 y e
theorem le_sortI : ∀ ns, (sortI ns).Pairwise (· ≤ ·)
  | [] => .nil
  | n :: ns => le_insI n _ (le_sortI ns)
theorem perm_insP (k : List Int) : ∀ l, (insP k l).Perm (k :: l)
  | [] => .refl _
  | x :: r => by
    unfold insP
    split
    · exact ((perm_insP k r).cons x).trans (.swap k x r)
    · exact .refl _
theorem perm_sortP : ∀ ts, (sortP ts).Perm ts
  | [] => .refl _
  | n :: ts => (perm_insP n _).trans ((perm_sortP ts).cons n)
abbrev LeT (l : List (List Int)) : Prop := l.Pairwise fun a b => cd a ≤ cd b
theorem le_insP {d : Nat} {k : List Int} (hk : OkT d k) : ∀ l : List (List Int), (∀ t ∈ l, OkT d t) → LeT l → LeT (insP k l)
  | [], _, _ => by simp [insP, LeT]
  | x :: r, ho, h => by
    obtain ⟨h1, h2⟩ := List.pairwise_cons.mp h
    have hx := ho x List.mem_cons_self
    unfold insP
    split
    · rename_i c
      have c := (lt_code hx hk).mp c
      refine List.pairwise_cons.mpr ⟨fun y hy => ?_, le_insP hk r (fun t ht => ho t (List.mem_cons_of_mem _ ht)) h2⟩
      rcases List.mem_cons.mp ((perm_insP k r).mem_iff.mp hy) with e | e
      · rw [e]; omega
      · exact h1 y e
    · rename_i c
      have c3 : cd k ≤ cd x := by
        rcases Int.lt_or_le (cd x) (cd k) with q | q
        · exact absurd ((lt_code hx hk).mpr q) c
        · exact q
      refine List.pairwise_cons.mpr ⟨fun y hy => ?_, h⟩
      rcases List.mem_cons.mp hy with e | e
      · rw [e]; exact c3
      · have := h1 y e; omega
theorem le_sortP {d : Nat} : ∀ ts : List (List Int), (∀ t ∈ ts, OkT d t) → LeT (sortP ts)
  | [], _ => .nil
  | n :: ts, h => le_insP (h n List.mem_cons_self) _ (fun t ht => h t (List.mem_cons_of_mem _ ((perm_sortP ts).mem_iff.mp ht))) (le_sortP ts fun t ht => h t (List.mem_cons_of_mem _ ht))
theorem perm_map_inv {α β : Type} {f : α → β} {l m : List β} (h : l.Perm m) : ∀ ks : List α, m = ks.map f → ∃ ks' : List α, ks'.Perm ks ∧ l = ks'.map f := by
  induction h with
  | nil =>
    intro ks e
    cases ks with
    | nil => exact ⟨[], .refl _, rfl⟩
    | cons _ _ => cases e
  | cons x p ih =>
    intro ks e
    cases ks with
    | nil => cases e
    | cons k ks =>
      obtain ⟨rfl, e2⟩ := List.cons.inj e
      obtain ⟨ks', p', rfl⟩ := ih ks e2
      exact ⟨k :: ks', p'.cons k, rfl⟩
  | swap x y l =>
    intro ks e
    match ks, e with
    | a :: b :: ks, e =>
      simp only [List.map_cons, List.cons.injEq] at e
      obtain ⟨rfl, rfl, rfl⟩ := e
      exact ⟨b :: a :: ks, .swap _ _ _, rfl⟩
    | [a], e => simp at e
    | [], e => cases e
  | trans p q ih1 ih2 =>
    intro ks e
    obtain ⟨k1, p1, e1⟩ := ih2 ks e
    obtain ⟨k2, p2, e2⟩ := ih1 k1 e1
    exact ⟨k2, p2.trans p1, e2⟩
theorem okTs_of {ts : List (List Int)} (h : okTs ts = true) : ts.length < 64 ∧ (ts = [] ∨ 1 ≤ (ts.headD []).length) ∧ ∀ t ∈ ts, OkT (ts.headD []).length t := by
  unfold okTs at h
  simp only [Bool.and_eq_true, decide_eq_true_eq, List.all_eq_true] at h
  obtain ⟨h1, h2⟩ := h
  refine ⟨h1, ?_, fun t ht => ⟨(h2 t ht).1.1, fun n hn => (h2 t ht).2 n hn⟩⟩
  cases ts with
  | nil => exact .inl rfl
  | cons t ts => exact .inr ((h2 t List.mem_cons_self).1.2)

/-! ### a set, made of a tuple of tuples -/
section
variable {P : Program} {w : World} {A : Around} {E : Value → Shared → Prop} {s : Shared}
theorem none_big {h : Heap} {b : Addr} (hb : h.objs.size ≤ b) : h.get? b = none := by
  cases q : h.get? b with
  | none => rfl
  | some o => exact absurd (Nat.lt_of_lt_of_le (Heap.lt_size q) hb) (Nat.lt_irrefl _)
theorem set_of_tups {l : Addr} {its : Array Value} (ks : List (Addr × List Int)) {Q : Value → Shared → Prop} (hh : A.handled = none) (hl : s.heap.IsTuple l its) (hit : its.toList = ks.map fun p => Value.ref p.1)
    (hk : ∀ p ∈ ks, IsT P w s.heap p.2 p.1) (hf : ks.length < 64) (hu : A.units + 3 < cLine)
    (h : ∀ (g : Heap) (tk : Nat) L es ep t, SetTR P w g s.heap.objs.size L es ep t → Got ks ks.length L → (∀ b o, s.heap.get? b = some o → g.get? b = some o) → Q (.ref s.heap.objs.size) { s with heap := g, toks := tk }) :
    wpAny (model P w) A (call (.type "set") [.ref l]) Q E s := by
  have hsz : its.size = ks.length := by rw [← Array.length_toList, hit, List.length_map]
  have mr := F.called_set.mro
  obtain ⟨c0, tl, mr⟩ := mr
  have md := F.called_set.made
  have sb := F.called_set.sub
  have nt := F.called_set.notType
  have cc := F.called_set.canCreate
  have ct := F.typeCall_set_1 (.ref l)
  refine wpAny_call (codeAny_of_tree ?_)
  show wpAny _ _ (callAny (.type "set") _) _ _ _
  refine wpAny_pure ⟨Code.quiet_builtin _ (by decide +kernel), codeAny_builtin F.entry_type_call ?_⟩
  rw [Around.under_plain (weight_type_call_type "set" [.ref l] []) rfl]
  repeat (any_goals (first | assumption | wp_step))
  refine codeAny_mono (code_set_led1 (.ref l) (E := E) (Q₁ := fun ob s1 => ob = .ref s.heap.objs.size ∧ s1 = { s with heap := s.heap.push (nuSet w) }) ⟨rfl, rfl⟩) fun r s1 hr => ?_
  cases r with
  | error e => exact hr
  | ok fl =>
    cases fl with
    | ret ob =>
      obtain ⟨rfl, rfl⟩ := hr
      have at0 : (s.heap.push (nuSet w)).get? s.heap.objs.size = some (nuSet w) := Heap.get?_push_size _ rfl
      have ty0 : Shared.TypeIs { s with heap := s.heap.push (nuSet w) } (.ref s.heap.objs.size) "set" := ⟨_, at0, rfl⟩
      have il := F.called_set.init.lookup
      have ib := F.called_set.init.bind (.ref s.heap.objs.size)
      repeat (any_goals (first | assumption | wp_step))
      refine codeAny_mono (codeAny_call_builtin (R := wants (fun r s2 => r = .none ∧ ∃ g tk L es ep t, s2 = { s with heap := g, toks := tk } ∧ SetTR P w g s.heap.objs.size L es ep t ∧ Got ks ks.length L ∧
          (∀ b o, s.heap.get? b = some o → g.get? b = some o)) E) F.called_set.init.plain F.entry_set_init (check_set_init_1 ty0 ?_)) fun r2 s2 hr2 => ?_
      · obtain ⟨⟨oc, od, oda, os⟩, hol, hcl, nl, hdl⟩ := hl
        simp only at hcl hdl
        subst hcl; subst hdl
        have at1 : (s.heap.push (nuSet w)).get? l = some { cls := .type "tuple", dict := od, data := .seq its nl, slots := os } := Heap.get?_push_of_some _ hol
        have q1 := F.sub_tuple_set
        have q2 := F.sub_tuple_frozenset
        have q3 : (Value.type "tuple" == Value.type "dict") = false := by decide
        have il1 : (s.heap.push (nuSet w)).IsTuple l its := ⟨_, at1, rfl, nl, rfl⟩
        unfold Builtin.«set.__init__» noKeywords Builtin.Frozenset.updateFrom
        generalize hPI : pyIter = PI
        wp_walk
        subst hPI
        refine wpAny_pyIter_tuple il1 ?_
        refine wpAny_bind (wpAny_runValue ?_)
        have lt : l < s.heap.objs.size := Heap.lt_size hol
        have h3 : A.in1.in1.in1.handled = none := by simp [hh]
        have z1 : (s.heap.push (nuSet w)).objs.size = s.heap.objs.size + 1 := Heap.size_push ..
        have ne1 : l ≠ (s.heap.push (nuSet w)).objs.size := by rw [z1]; exact Nat.ne_of_lt (Nat.lt_succ_of_lt lt)
        have nf : s.heap.objs.size ∉ [(s.heap.push (nuSet w)).objs.size, l] := by
          simp only [List.mem_cons, List.mem_singleton, List.not_mem_nil, or_false, not_or, z1]
          exact ⟨Nat.ne_of_lt (Nat.lt_succ_self _), Nat.ne_of_gt lt⟩
        have hv : ∀ (i : Nat) (v : Value), its[i]? = some v → ∃ p, ks[i]? = some p ∧ v = .ref p.1 := fun i v e => by
          have e2 : its.toList[i]? = some v := by rw [Array.getElem?_toList]; exact e
          rw [hit, List.getElem?_map] at e2
          obtain ⟨p, hp, e3⟩ := Option.map_eq_some_iff.mp e2
          exact ⟨p, hp, e3.symm⟩
        refine set_update_tups ((Walks.tuple h3 _ l ne1 its).toS) s.heap.objs.size nf ks hsz hf hv s.heap hk (none_big (Nat.le_refl _)) (fun b hb => none_big (by
            rw [List.mem_singleton.mp hb, z1]; omega)) hu (its.size - 0) 0 _ (by omega) (Nat.zero_le _)
          ⟨⟨_, Heap.get?_push_size _ rfl, rfl, rfl⟩, (il1.push _)⟩ (fun b o e => Heap.get?_push_of_some _ (Heap.get?_push_of_some _ e)) ?a0 ?a1
        case a0 => exact ⟨[], #[], 0, _, setTR_fresh (Heap.get?_push_of_some _ at0), Got.zero ks⟩
        case a1 =>
          intro s' L es ep t hm hS' g' hkp
          obtain ⟨g, g2, d', tk', os'⟩ := s'
          have eg : g2 = s.gens := hm.gens
          have ed : d' = s.drawn := hm.drawn
          have eo : os' = s.os := hm.os
          subst eg; subst ed; subst eo
          show wpAny _ _ _ _ _ _
          refine wpAny_pure ?_
          show wpAny _ _ (ret Value.none) _ _ _
          rw [hsz] at g'
          exact wpAny_pure ⟨rfl, g, tk', L, es, ep, t, rfl, hS', g', hkp⟩
      · cases r2 with
        | error e => exact hr2
        | ok fl2 =>
          cases fl2 with
          | ret r =>
            obtain ⟨rfl, g, tk, L, es, ep, t, rfl, hS', hg', hk'⟩ := hr2
            repeat (any_goals (first | assumption | wp_step))
            exact h _ _ _ _ _ _ hS' hg' hk'
          | _ => exact hr2.elim
    | _ => exact hr.elim
end
/-- set(e), e a list or a tuple of tuples -/
def rSetTs (K : PySem.W.Frag) (P : Program) (w : World) : List V → Hp → VK → Prop := fun vs H Q => ∃ (l : Addr) (ks : List (Addr × List Int)), vs = [.ref l] ∧ (SqL K H l (ks.map fun p => V.ref p.1) ∨ SqT K H l (ks.map fun p => V.ref p.1)) ∧ (∀ p ∈ ks, SqT K H p.1 (p.2.map V.int)) ∧ ks.length < 64 ∧
  ∀ a L, H a = none → (∀ p ∈ L, p ∈ ks) → (∀ p ∈ ks, p.2 ∈ L.map (·.2)) → Q (.ref a) (upd H a (SetTO P w a L))
theorem cr_setTs {X : Cx} (hc : X.calm = true) (hu : X.A.units + 64 < cLine) : CallR X (.type "set") (rSetTs X.K X.prog X.w) := by
  intro pins s σ H vs us Q I r h
  obtain ⟨l, ks, rfl, hq, hk, hf, q⟩ := h
  rcases hq with hq | hq
  · exact cr_setOfT hc hu pins s σ H _ us Q I r ⟨l, ks, rfl, hq, hk, hf, q⟩
  rw [Vals.ref1 r]
  obtain ⟨its, rv, pl, hz⟩ := I.tuple hq
  have hn : H s.heap.objs.size = none := I.hok.fresh (Nat.le_refl _)
  refine set_of_tups (P := X.prog) (w := X.w) ks (I.ok.hd hc) (show s.heap.IsTuple l its.toArray from pl) (by simpa using refs_of_vals rv) (fun p hp => I.isT (hk p hp)) hf (by omega) fun g tk L es ep t R gt k => ?_
  refine ⟨.ref s.heap.objs.size, upd H s.heap.objs.size (SetTO X.prog X.w s.heap.objs.size L), I.laid (t' := tk) k (Nat.le_refl _) (setTO_new R.t0), rfl, q _ L hn (fun p hp => List.mem_of_mem_take (gt.sub p hp)) fun p hp => gt.all p ?_⟩
  rw [List.take_length]; exact hp
def rSetX (K : PySem.W.Frag) (P : Program) (w : World) : List V → Hp → VK → Prop := fun vs H Q => rSetOf K w vs H Q ∨ rSetTs K P w vs H Q
def rSrtX (K : PySem.W.Frag) (P : Program) (w : World) : List V → Hp → VK → Prop := fun vs H Q => rSortedSet w vs H Q ∨ rSortedT K P w vs H Q
theorem cr_setX {X : Cx} (hc : X.calm = true) (hu : X.A.units + 64 < cLine) : CallR X (.type "set") (rSetX X.K X.prog X.w) := by
  intro pins s σ H vs us Q I r h
  rcases h with h | h
  · exact cr_setOf hc pins s σ H vs us Q I r h
  · exact cr_setTs hc hu pins s σ H vs us Q I r h
theorem cr_srtX {X : Cx} (hc : X.calm = true) : CallR X (.builtin "sorted") (rSrtX X.K X.prog X.w) := by
  intro pins s σ H vs us Q I r h
  rcases h with h | h
  · exact cr_sortedSet hc pins s σ H vs us Q I r h
  · exact cr_sortedT hc pins s σ H vs us Q I r h
theorem pe_ssetX {X : Cx} {e : Expr} {te : TE} {p p2 pos pos2 : Pos} (hc : X.calm = true) (hu : X.A.units + 64 < cLine) (hg : Gl X "sorted") (hm : X.mg "sorted" = none) (hg2 : Gl X "set") (hm2 : X.mg "set" = none) (he : PE X e te)
    (hs : starEach [e] X.env = (false, eval e X.env) :: starEach [] X.env) : PE X (.Call (.Name "sorted" p) [.Call (.Name "set" p2) [e] [] pos2] [] pos) (tCB (rSrtX X.K X.prog X.w) (tCons (tCB (rSetX X.K X.prog X.w) (tCons te tNil)) tNil)) :=
  pe_callB (cr_srtX hc) hg hm (by decide +kernel) (pa_cons (pe_callTy (cr_setX hc hu) hg2 hm2 (by decide +kernel) (pa_cons he pa_nil hs) (by decide) (by decide) hs rfl) pa_nil rfl) (by decide) (by decide) rfl rfl
/-- sorted(e), e a list -/
def rSrtL (K : PySem.W.Frag) : List V → Hp → VK → Prop := fun vs H Q => rSortedI K vs H Q ∨ ∃ d, 1 ≤ d ∧ rSortU K d 1000000 vs H Q
theorem cr_srtL {X : Cx} : CallR X (.builtin "sorted") (rSrtL X.K) := by
  intro pins s σ H vs us Q I r h
  rcases h with h | ⟨d, hd, h⟩
  · exact cr_sortedI pins s σ H vs us Q I r h
  · exact cr_sortT hd pins s σ H vs us Q I r h
theorem pe_srtL {X : Cx} {e : Expr} {te : TE} {p pos : Pos} (hg : Gl X "sorted") (hm : X.mg "sorted" = none) (he : PE X e te) (hs : starEach [e] X.env = (false, eval e X.env) :: starEach [] X.env) : PE X (.Call (.Name "sorted" p) [e] [] pos) (tCB (rSrtL X.K) (tCons te tNil)) :=
  pe_callB cr_srtL hg hm (by decide +kernel) (pa_cons he pa_nil hs) (by decide) (by decide) hs rfl
/-! ### tuples of ints as they lie -/
theorem intsD_map0 : ∀ {xs : List D} {ns : List Int}, intsD xs = some ns → xs = ns.map .int
  | [], ns, h => by simp [intsD] at h; subst h; rfl
  | .int i :: xs, ns, h => by
    simp only [intsD, Option.map_eq_some_iff] at h
    obtain ⟨ms, h1, rfl⟩ := h
    rw [intsD_map0 h1]; rfl
  | .none :: _, _, h => by simp [intsD] at h
  | .bool _ :: _, _, h => by simp [intsD] at h
  | .str _ :: _, _, h => by simp [intsD] at h
  | .list _ :: _, _, h => by simp [intsD] at h
  | .tuple _ :: _, _, h => by simp [intsD] at h
  | .dict _ :: _, _, h => by simp [intsD] at h
theorem tupsD_map : ∀ {xs : List D} {ts : List (List Int)}, tupsD xs = some ts → xs = ts.map tupI
  | [], ts, h => by simp [tupsD] at h; subst h; rfl
  | .tuple ys :: xs, ts, h => by
    simp only [tupsD, Option.bind_eq_some_iff, Option.map_eq_some_iff] at h
    obtain ⟨ns, h1, us, h2, rfl⟩ := h
    rw [tupsD_map h2, intsD_map0 h1]; rfl
  | .none :: _, _, h => by simp [tupsD] at h
  | .bool _ :: _, _, h => by simp [tupsD] at h
  | .str _ :: _, _, h => by simp [tupsD] at h
  | .list _ :: _, _, h => by simp [tupsD] at h
  | .int _ :: _, _, h => by simp [tupsD] at h
  | .dict _ :: _, _, h => by simp [tupsD] at h
theorem RpA.tups {K : PySem.W.Frag} {H : Hp} : ∀ {ts : List (List Int)} {vs : List V}, RpA K H vs (ts.map tupI) → ∃ ks : List (Addr × List Int), vs = ks.map (fun p => V.ref p.1) ∧ ks.map (·.2) = ts ∧ ∀ p ∈ ks, SqT K H p.1 (p.2.map V.int) ∧ p.2.length ≤ sizeLine
  | [], _, h => by cases h; exact ⟨[], rfl, rfl, fun p hp => by cases hp⟩
  | t :: ts, _, h => by
    cases h with
    | cons h r =>
      obtain ⟨ks, rfl, h2, h3⟩ := RpA.tups r
      cases h with
      | tup h q z =>
        rename_i a vs
        have e := q.ints rfl
        subst e
        refine ⟨(a, t) :: ks, rfl, by rw [List.map_cons, h2], fun p hp => ?_⟩
        rcases List.mem_cons.mp hp with rfl | hp
        · exact ⟨h, by simpa using z⟩
        · exact h3 p hp
theorem RpA.of_tups {K : PySem.W.Frag} {H : Hp} : ∀ {ks : List (Addr × List Int)}, (∀ p ∈ ks, SqT K H p.1 (p.2.map V.int) ∧ p.2.length ≤ sizeLine) → RpA K H (ks.map fun p => V.ref p.1) ((ks.map (·.2)).map tupI)
  | [], _ => .nil
  | p :: ks, h => by
    have h1 := h p List.mem_cons_self
    refine .cons (.tup h1.1 ?_ (by rw [List.length_map]; exact h1.2)) (RpA.of_tups fun q hq => h q (List.mem_cons_of_mem _ hq))
    have : ∀ ns : List Int, RpA K H (ns.map V.int) (ns.map PyData.int) := fun ns => by
      induction ns with
      | nil => exact .nil
      | cons n ns ih => exact .cons (.int n) ih
    exact this _
end Mu

namespace Mu
open PySem PySem.Spec PyProof.Rows L2 RT
/-! tuple(reversed(tuple)) -/
theorem nolen_rt : typeLookup (.type "reversed") "__len__" = pure none := by rw [typeLookup_type, builtinLookup_eq_fast]; kernel_rfl
theorem hint_rt : typeLookup (.type "reversed") "__length_hint__" = pure (some (.builtin "reversed.__length_hint__")) := by rw [typeLookup_type, builtinLookup_eq_fast]; kernel_rfl
theorem walks_rt {prog : Program} {w : World} {A : Around} (hh : A.handled = none) (I t : Addr) (hne : t ≠ I) (items : Array Value) (hsz : items.size ≤ sizeLine) :
    Walks prog w A I [I, t] [I] items.size (fun i v => items[items.size - 1 - i]? = some v) (fun i h => i ≤ items.size ∧ IsRt h I t ((items.size : Int) - 1 - (i : Nat)) ∧ IsTup h t items) where
  sub := fun b hb => by simp at hb; simp [hb]
  frame := fun _ _ _ st hk => ⟨st.1, st.2.1.at fun o e => hk I (by simp) o e, by
    obtain ⟨o, ho, r⟩ := st.2.2
    exact ⟨o, hk t (by simp) o ho, r⟩⟩
  item := fun i s Q E hi st hQ => by
    obtain ⟨_, hit, ht⟩ := st
    have e1 : (items.size : Int) - 1 - ((i : Nat) : Int) = ((items.size - 1 - i : Nat) : Int) := by omega
    rw [e1] at hit
    have hx : items[items.size - 1 - i]? = some items[items.size - 1 - i] := Array.getElem?_eq_getElem (by omega)
    refine next_rt_item hit ht hx hsz fun h' st' sb => ?_
    have e2 : ((items.size - 1 - i : Nat) : Int) - 1 = (items.size : Int) - 1 - ((i + 1 : Nat) : Int) := by omega
    rw [e2] at st'
    refine hQ _ h' _ hx ⟨by omega, st', ?_⟩ fun b o hb e => (sb.2 b (by simpa using hb)).trans e
    obtain ⟨o, ho, r⟩ := ht
    exact ⟨o, (sb.2 t hne).trans ho, r⟩
  done := fun s Q E st hQ => by
    obtain ⟨_, hit, ht⟩ := st
    have e1 : (items.size : Int) - 1 - ((items.size : Nat) : Int) = -1 := by omega
    rw [e1] at hit
    exact next_rt_end hh hit fun h' eb => hQ h' s.toks fun b o hb e => eb b o (by simpa using hb) e
  self := fun i s Q E st h => iter_rt st.2.1 h
theorem slot_rt_hint : Slot "reversed" "__length_hint__" "reversed.__length_hint__" :=
  .of (owner := "reversed") (n := "__length_hint__") (by rw [typeLookup_type, builtinLookup_eq_fast]; kernel_rfl) (by decide +kernel) (by decide +kernel) (by decide +kernel)
    (by first | exact .inl (by decide +kernel) | exact .inr (by decide +kernel)) (by rw [isSubtype_type]; kernel_rfl)
theorem entry_rt_hint : entryFor table "reversed.__length_hint__" = some Builtin.«reversed.__length_hint__» := entryFor_of_tree (by kernel_rfl)
theorem args_rt_hint (a : Value) : argsOk "reversed.__length_hint__" ⟨[a], []⟩ := by
  unfold argsOk; rw [signature?_of (id := "reversed.__length_hint__") (n := ['_', '_', 't', 'n', 'i', 'h', '_', 'h', 't', 'g', 'n', 'e', 'l', '_', '_']) (o := ['d', 'e', 's', 'r', 'e', 'v', 'e', 'r']) (by kernel_rfl) owner_rt]; kernel_rfl
section
variable {prog : Program} {w : World} {A : Around} {E : Value → Shared → Prop} {s : Shared}
theorem hint_rtS {it t : Addr} {items : Array Value} {Q : Bool → Shared → Prop} (hit : IsRt s.heap it t ((items.size : Int) - 1)) (ht : IsTup s.heap t items) (hn : items.size ≤ sizeLine)
    (hlen : ∀ (A : Around) (E : Value → Shared → Prop) (Q : Value → Shared → Prop), Q (.int items.size (s.toks + 1)) { s with toks := s.toks + 1 + 1 } → wpAny (model prog w) A (call (.builtin "len") [.ref t]) Q E s)
    (h : ∀ b tk, Q b { s with toks := tk }) : wpAny (model prog w) A (Builtin.List.listLengthHint (.ref it)) Q E s := by
  have hT := hit.typeIs
  unfold Builtin.List.listLengthHint
  refine wpAny_bind (wpAny_specialOf hT nolen_rt ?_)
  show wpAny _ _ (specialOf (Value.ref it) (Str.ofString "__length_hint__") >>= _) _ _ _
  refine wpAny_bind (wpAny_specialOf hT hint_rt ?_)
  generalize hid : ("reversed.__length_hint__" : String) = id0
  wp_delta
  rw [show splitId id0 = some ("reversed", "__length_hint__") from by subst hid; decide +kernel]
  subst hid
  refine wpAny_bind (wpAny_isInstance (b := true) hT (by rw [isSubtype_type]; kernel_rfl) ?_)
  rw [if_neg (by decide)]
  refine wpAny_ite_split (fun hab => absurd hab (by decide +kernel)) (fun _ => ?_)
  refine wpAny_bind (wpAny_rule ?_)
  refine wpAny_bind (wpAny_of_eq (slot_rt_hint.bind _) ?_)
  try dsimp only
  obtain ⟨o, ho, hc, hd⟩ := id hit
  refine wpAny_bind (wpAny_attempt (wpAny_call_entry slot_rt_hint hT entry_rt_hint ?_ (args_rt_hint _)))
  unfold Builtin.«reversed.__length_hint__»
  refine wpAny_bind (wpAny_of_eq (a := Value.ref it) rfl ?_)
  refine wpAny_bind (wpAny_field ho hd (x := .ref t) rfl ?_)
  rw [if_neg (show ¬ ((Value.ref t == Value.none) = true) from by first | exact Bool.false_ne_true | simp | decide +revert)]
  refine wpAny_bind (hlen _ _ _ ?_)
  refine wpAny_bind (wpAny_of_eq (a := some (items.size : Int)) rfl ?_)
  try dsimp only
  refine wpAny_bind (wpAny_field (s := { s with toks := s.toks + 1 + 1 }) ho hd (x := rawInt ((items.size : Int) - 1)) rfl ?_)
  try dsimp only
  show wpAny _ _ (if (items.size : Int) < (items.size : Int) - 1 + 1 then _ else retInt ((items.size : Int) - 1 + 1)) _ _ _
  rw [if_neg (by omega)]
  unfold retInt
  refine wpAny_bind (wpAny_mkInt ?_)
  refine wpAny_pure ⟨_, rfl, ?_⟩
  refine wpAny_bind (wpAny_of_eq (a := some ((items.size : Int) - 1 + 1)) rfl ?_)
  try dsimp only
  rw [sizeLine_eq] at hn
  refine wpAny_ite_split (fun hab => ?_) (fun _ => ?_)
  · exfalso
    unfold Builtin.List.listFitsIndex at hab
    simp at hab
    omega
  · refine wpAny_ite_split (fun hab => absurd hab (by omega)) (fun _ => ?_)
    refine wpAny_ite_split (fun hab => ?_) (fun _ => wpAny_pure (h _ _))
    rw [L2.notLongL (by rw [sizeLine_eq]; omega)] at hab
    cases hab
theorem collect_rt {it t : Addr} {items : Array Value} {Q : List Value → Shared → Prop} (hh : A.handled = none) (hit : IsRt s.heap it t ((items.size : Int) - 1)) (ht : IsTup s.heap t items) (hne : t ≠ it) (hn : items.size ≤ sizeLine)
    (hlen : ∀ (s : Shared), IsTup s.heap t items → ∀ (A : Around) (E : Value → Shared → Prop) (Q : Value → Shared → Prop), Q (.int items.size (s.toks + 1)) { s with toks := s.toks + 1 + 1 } → wpAny (model prog w) A (call (.builtin "len") [.ref t]) Q E s)
    (hQ : ∀ (h' : Heap) (tk : Nat) (acc : Array Value), (∀ b o, b ≠ it → s.heap.get? b = some o → h'.get? b = some o) → ItemsOf (fun i v => items[items.size - 1 - i]? = some v) acc items.size → Q acc.toList { s with heap := h', toks := tk }) :
    wpAny (model prog w) A (collect (.ref it)) Q E s := by
  have W := (walks_rt (prog := prog) (w := w) (A := A.in1) hh it t hne items hn).toS
  obtain ⟨oi, hoi, _⟩ := id hit
  obtain ⟨ol, hol, hor⟩ := id ht
  have hSi : s.heap.objs.size ≠ it := Nat.ne_of_gt (Heap.lt_size hoi)
  have hSl : s.heap.objs.size ≠ t := Nat.ne_of_gt (Heap.lt_size hol)
  have hSf : s.heap.objs.size ∉ [it, t] := by simp only [List.mem_cons, List.not_mem_nil, or_false, not_or]; exact ⟨hSi, hSl⟩
  unfold collect
  refine wpAny_bind (wpAny_runValue (codeAny_builtin F.entry_proto_collect ?_))
  rw [Around.under_plainId F.plain_proto_collect _]
  show wpAny _ A.in1 (newList [] >>= fun l' => again (.builtin "list.__iadd__" ⟨[l', .ref it], []⟩)) _ _ s
  refine wpAny_bind (wpAny_newObj_type ?_)
  refine wpAny_pure ⟨plainId_quiet F.plain_list_iadd _, codeAny_builtin F.entry_list_iadd ?_⟩
  rw [Around.under_plainId F.plain_list_iadd _]
  have hS₁ : (s.heap.push { cls := .type "list", data := .seq ([] : List Value).toArray }).get? s.heap.objs.size = some { cls := .type "list", data := .seq ([] : List Value).toArray } := Heap.get?_push_size _ rfl
  have hit1 : IsRt (s.heap.push { cls := .type "list", data := .seq ([] : List Value).toArray }) it t ((items.size : Int) - 1) := hit.at fun o e => Heap.get?_push_of_some _ e
  have hl1 : IsTup (s.heap.push { cls := .type "list", data := .seq ([] : List Value).toArray }) t items := ⟨ol, Heap.get?_push_of_some _ hol, hor⟩
  have hT : ({ s with heap := s.heap.push { cls := .type "list", data := .seq ([] : List Value).toArray } } : Shared).TypeIs (.ref it) "reversed" := IsRt.typeIs (s := { s with heap := s.heap.push { cls := .type "list", data := .seq ([] : List Value).toArray } }) hit1
  have h1 : Builtin.List.listSameRef (.ref s.heap.objs.size) (.ref it) = false := by simp [Builtin.List.listSameRef, hSi]
  show wpAny _ A.in1 (Builtin.List.listExtendWith (.ref s.heap.objs.size) (.ref it) (.ref s.heap.objs.size)) _ _ _
  unfold Builtin.List.listExtendWith
  refine wpAny_bind (wpAny_typeOf hT ?_)
  rw [if_neg (by rw [h1]; decide)]
  refine wpAny_bind (iter_rt (s := { s with heap := s.heap.push { cls := .type "list", data := .seq ([] : List Value).toArray } }) hit1 ?_)
  refine wpAny_bind (wpAny_holding ?_)
  refine hint_rtS (s := { s with heap := s.heap.push { cls := .type "list", data := .seq ([] : List Value).toArray } }) hit1 hl1 hn (hlen { s with heap := s.heap.push { cls := .type "list", data := .seq ([] : List Value).toArray } } hl1) fun b tk0 => ?_
  have e0 : ((items.size : Nat) : Int) - 1 - ((0 : Nat) : Int) = (items.size : Int) - 1 := by omega
  cases b with
  | false =>
    refine wpAny_pure ⟨plainId_quiet F.plain_extend_loop _, codeAny_extend_loopS W hn _ hSf _ items.size 0 _ _ _ rfl (Nat.zero_le _) ⟨Nat.zero_le _, by rw [e0]; exact hit1, hl1⟩ hS₁ (ItemsOf.nil _) fun s' acc' c' hm hS' hacc => ?_⟩
    show wpAny _ A (load s.heap.objs.size >>= _) _ _ s'
    refine wpAny_bind (wpAny_load hS' ?_)
    refine wpAny_pure ?_
    rw [Moved.eq_with hm]
    refine hQ s'.heap s'.toks acc' (fun b o hb e => hm.heap b o (fun hmem => ?_) (Heap.get?_push_of_some _ e)) hacc
    rcases List.mem_cons.mp hmem with e' | hmem
    · exact absurd (Heap.lt_size e) (by rw [e']; exact Nat.lt_irrefl _)
    · exact hb (List.mem_singleton.mp hmem)
  | true =>
    show wpAny _ A.in1 (rule "list.extend.makes-room" >>= fun _ => Builtin.List.listTouch (.ref s.heap.objs.size) >>= fun _ =>
      again (.builtin "list.extend.loop" ⟨[.ref s.heap.objs.size, .ref it, .ref s.heap.objs.size], []⟩)) _ _ _
    refine wpAny_bind (wpAny_rule ?_)
    refine wpAny_bind ?_
    show wpAny _ A.in1 (updateSeq s.heap.objs.size (·.push .none) >>= fun _ => updateSeq s.heap.objs.size (·.pop)) _ _ _
    refine wpAny_bind (wpAny_updateSeq hS₁ rfl ?_)
    have hS₂ := Heap.get?_update_self (Obj.mapSeq (·.push Value.none)) hS₁ rfl
    refine wpAny_updateSeq hS₂ rfl ?_
    have hS₃ := Heap.get?_update_self (Obj.mapSeq (·.pop)) hS₂ rfl
    have oth : ∀ b o, b ≠ s.heap.objs.size → (s.heap.push { cls := .type "list", data := .seq ([] : List Value).toArray }).get? b = some o →
        (((s.heap.push { cls := .type "list", data := .seq ([] : List Value).toArray }).update s.heap.objs.size (Obj.mapSeq (·.push Value.none))).update s.heap.objs.size (Obj.mapSeq (·.pop))).get? b = some o :=
      fun b o hb e => (Heap.get?_update_other _ _ (Ne.symm hb)).trans ((Heap.get?_update_other _ _ (Ne.symm hb)).trans e)
    refine wpAny_pure ⟨plainId_quiet F.plain_extend_loop _, codeAny_extend_loopS W hn _ hSf _ items.size 0 _ _ _ rfl (Nat.zero_le _) ⟨Nat.zero_le _, by rw [e0]; exact hit1.at fun o e => oth it o hSi.symm e, by
      obtain ⟨o, ho, r⟩ := hl1
      exact ⟨o, oth t o hSl.symm ho, r⟩⟩ hS₃ (ItemsOf.nil _) fun s' acc' c' hm hS' hacc => ?_⟩
    show wpAny _ A (load s.heap.objs.size >>= _) _ _ s'
    refine wpAny_bind (wpAny_load hS' ?_)
    refine wpAny_pure ?_
    rw [Moved.eq_with hm]
    refine hQ s'.heap s'.toks acc' (fun b o hb e => hm.heap b o (fun hmem => ?_) (oth b o (Nat.ne_of_lt (Heap.lt_size e)) (Heap.get?_push_of_some _ e))) hacc
    rcases List.mem_cons.mp hmem with e' | hmem
    · exact absurd (Heap.lt_size e) (by rw [e']; exact Nat.lt_irrefl _)
    · exact hb (List.mem_singleton.mp hmem)
theorem code_tuple_new_rt {it t : Addr} {items : Array Value} {Q₁ : Value → Shared → Prop} (hh : A.handled = none) (hit : IsRt s.heap it t ((items.size : Int) - 1)) (ht : IsTup s.heap t items) (hne : t ≠ it) (hn : items.size ≤ sizeLine)
    (hlen : ∀ (s : Shared), IsTup s.heap t items → ∀ (A : Around) (E : Value → Shared → Prop) (Q : Value → Shared → Prop), Q (.int items.size (s.toks + 1)) { s with toks := s.toks + 1 + 1 } → wpAny (model prog w) A (call (.builtin "len") [.ref t]) Q E s)
    (h : ∀ (h' : Heap) (tk : Nat) (acc : Array Value), (∀ b o, b ≠ it → s.heap.get? b = some o → h'.get? b = some o) → ItemsOf (fun i v => items[items.size - 1 - i]? = some v) acc items.size →
      Q₁ (.ref h'.objs.size) { s with heap := h'.push { cls := .type "tuple", data := .seq acc }, toks := tk }) :
    codeAny (model prog w) A (.call (.builtin "tuple.__new__") ⟨[.type "tuple", .ref it], []⟩) (wants Q₁ E) s := by
  refine codeAny_of_tree ?_
  show wpAny _ A.in1 (do checkBuiltinCall "tuple.__new__" ⟨[.type "tuple", .ref it], []⟩; again (.builtin "tuple.__new__" ⟨[.type "tuple", .ref it], []⟩)) _ _ s
  refine wpAny_bind (wpAny_of_eq (F.newCall_tuple_1 _) (wpAny_pure ⟨plainId_quiet F.plain_tuple_new _, codeAny_builtin F.entry_tuple_new ?_⟩))
  rw [Around.under_plainId F.plain_tuple_new _]
  have hsub := sub_tuple_self
  have hinit := init_tuple_lookup
  have hmh := madeHere_tuple
  have hTI : s.TypeIs (.ref it) "reversed" := hit.typeIs
  have hh1 : A.in1.handled = none := hh
  wp_walk using wpAny_typeOf hTI, collect_rt (A := A.in1) hh1 hit ht hne hn hlen
  intro h' tk acc hk hacc
  show wpAny _ _ (Builtin.Tuple.tupleExact acc.toList.toArray >>= fun v => ret v) _ _ _
  unfold Builtin.Tuple.tupleExact
  refine wpAny_bind (wpAny_newObj_type ?_ (by show acc.toList.toArray.size ≤ sizeLine; simp only [Array.toArray_toList]; rw [hacc.1]; exact hn))
  refine wpAny_pure ?_
  have e : acc.toList.toArray = acc := by simp
  rw [e]
  exact h h' tk acc hk hacc
theorem call_tuple_rt {it t : Addr} {items : Array Value} {Q : Value → Shared → Prop} (hh : A.handled = none) (hit : IsRt s.heap it t ((items.size : Int) - 1)) (ht : IsTup s.heap t items) (hne : t ≠ it) (hn : items.size ≤ sizeLine)
    (hlen : ∀ (s : Shared), IsTup s.heap t items → ∀ (A : Around) (E : Value → Shared → Prop) (Q : Value → Shared → Prop), Q (.int items.size (s.toks + 1)) { s with toks := s.toks + 1 + 1 } → wpAny (model prog w) A (call (.builtin "len") [.ref t]) Q E s)
    (hQ : ∀ (h' : Heap) (tk : Nat) (acc : Array Value), (∀ b o, b ≠ it → s.heap.get? b = some o → h'.get? b = some o) → ItemsOf (fun i v => items[items.size - 1 - i]? = some v) acc items.size →
      Q (.ref h'.objs.size) { s with heap := h'.push { cls := .type "tuple", data := .seq acc }, toks := tk }) :
    wpAny (model prog w) A (call (.type "tuple") [.ref it]) Q E s := by
  refine callType_codes (Q₁ := fun obj s₁ => s₁.TypeIs obj "tuple" ∧ Q obj s₁) F.called_tuple (F.typeCall_tuple_1 _) F.entry_object_init
    (code_tuple_new_rt (A := A.in1) hh hit ht hne hn hlen fun h' tk acc hk hacc => ⟨⟨_, Heap.get?_push_size _ rfl, rfl⟩, hQ h' tk acc hk hacc⟩) fun obj s₁ h₁ => ?_
  exact ⟨h₁.1, F.args_object_init_2 obj _, object_init_meets F.called_tuple.init.lookup F.called_tuple.made (by decide) prog w A.in1 _ s₁ ⟨h₁.1, rfl, h₁.2⟩⟩
end
/-- tuple(reversed(x)), x a tuple -/
def tTupRevT (K : PySem.W.Frag) (te : TE) : TE := fun σ H Q => te σ H fun v H1 => ∃ (a : Addr) (xs : List V), v = .ref a ∧ SqT K H1 a xs ∧ ∀ q, H1 q = none → Q (.ref q) (upd H1 q (.tup xs.reverse))
section
variable {X : Cx}
theorem pe_tupRevT {e : Expr} {te : TE} {p p2 pos pos2 : Pos} (hc : X.calm = true) (hg : Gl X "tuple") (hm : X.mg "tuple" = none) (hg2 : Gl X "reversed") (hm2 : X.mg "reversed" = none) (he : PE X e te)
    (hs : starEach [e] X.env = (false, eval e X.env) :: starEach [] X.env)
    (hs2 : starEach [.Call (.Name "reversed" p2) [e] [] pos2] X.env = (false, eval (.Call (.Name "reversed" p2) [e] [] pos2) X.env) :: starEach [] X.env := by rfl) :
    PE X (.Call (.Name "tuple" p) [.Call (.Name "reversed" p2) [e] [] pos2] [] pos) (tTupRevT X.K te) := by
  refine ⟨fun pins s σ H Q I h => ?_⟩
  refine Call_ (ld_blt I hg hm boot_tuple (PyProof.Rows.callWith_type1 (args_cons (Call_ (ld_blt I hg2 hm2 PyProof.Rows.boot_reversed (PyProof.Rows.callWith_type1 (args_cons (thn (he.run pins s σ H _ I h) fun u s1 ⟨v, H1, I1, r1, q1⟩ => args_nil ?_) hs) hs rfl))) hs2) hs2 rfl))
  obtain ⟨a, xs, ev, hq, q⟩ := q1
  subst ev
  obtain rfl : u = Value.ref a := r1
  obtain ⟨its, rv, p', hz⟩ := I1.tuple hq
  have hn : its.toArray.size ≤ sizeLine := by rw [List.size_toArray, ← rv.length]; exact hz
  have ln := line63
  have len : ∀ (s : Shared), IsTup s.heap a its.toArray → ∀ (A : Around) (E : Value → Shared → Prop) (Q : Value → Shared → Prop), Q (.int its.toArray.size (s.toks + 1)) { s with toks := s.toks + 1 + 1 } → wpAny (model X.prog X.w) A (call (.builtin "len") [.ref a]) Q E s := fun s pt A E Q k => len_tuple pt (by simp only [List.size_toArray] at hn ⊢ <;> omega) k
  refine call_reversed_tup p' (len s1 p') (args_nil ?_)
  have k0 : ∀ b o, s1.heap.get? b = some o → (s1.heap.push (rtObj a ((its.toArray.size : Int) - 1))).get? b = some o := fun b o e => Heap.get?_push_of_some _ e
  have I2 : Inv X pins σ H1 { s1 with heap := s1.heap.push (rtObj a ((its.toArray.size : Int) - 1)), toks := s1.toks + 1 + 1 } := I1.kept (t' := s1.toks + 1 + 1) k0
  obtain ⟨f0, f1, f2, f3, f4, f5⟩ := I1.fpOk (H' := H1) (b := s1.heap.objs.size) (Nat.le_refl _) (I1.hok.fresh (Nat.le_refl _))
  obtain ⟨ol, hol, hor⟩ := id p'
  have hne : a ≠ s1.heap.objs.size := Nat.ne_of_lt (Heap.lt_size hol)
  refine call_tuple_rt (s := { s1 with heap := s1.heap.push (rtObj a ((its.toArray.size : Int) - 1)), toks := s1.toks + 1 + 1 }) (I1.ok.hd hc) ⟨_, Heap.get?_push_size _ rfl, rfl, rfl⟩ ⟨ol, k0 a ol hol, hor⟩ hne hn len fun h' tk acc hk hi => ?_
  have I3 : Inv X pins σ H1 { s1 with heap := h', toks := tk } := I2.turned (t' := tk) (fun b o hb e => hk b o hb e) f0 f1 f3 f4 f5
  refine ⟨.ref h'.objs.size, upd H1 h'.objs.size (.tup xs.reverse), I3.laid (t' := tk) (fun c o e => Heap.get?_push_of_some _ e) (Nat.le_refl _) (show ObjOk X.prog X.w _ _ _ (.tup xs.reverse) from ⟨by rw [List.length_reverse]; exact hz, acc.toList, vals_rev rv hi, ?_⟩), rfl, q _ (I3.hok.fresh (Nat.le_refl _))⟩
  rw [Array.toArray_toList]
  exact IsTup.new _ _
end
/-! a tuple from its end on: t[::-1] -/
section
variable {prog : Program} {w : World} {A : Around} {E : Value → Shared → Prop} {s : Shared}
theorem applied_back {sl : Addr} {x y z : Value} {n : Nat} {Q : Int × Int × Nat → Shared → Prop} (hs : s.heap.IsSliceOf sl x y z) (px : IsPart x none) (py : IsPart y none) (pz : IsPart z (some (-1))) (h : Q ((n : Int) - 1, -1, n) s) :
    wpAny (model prog w) A (Builtin.Slice.sliceApplied (.ref sl) (pure (n : Int))) Q E s := by
  obtain ⟨o, ho, hc, hd⟩ := id hs
  unfold Builtin.Slice.sliceApplied Builtin.Slice.sliceFields
  refine wpAny_bind (wpAny_bind (wpAny_field ho hd (x := x) rfl (wpAny_bind (wpAny_field ho hd (x := y) rfl (wpAny_bind (wpAny_field ho hd (x := z) rfl (wpAny_pure ?_)))))))
  refine wpAny_bind (HT.slicePart_ pz ?_)
  show wpAny _ _ (if ((-1 : Int) == 0) = true then _ else _) _ _ s
  rw [if_neg (by decide)]
  refine wpAny_bind (HT.slicePart_ px (wpAny_bind (HT.slicePart_ py (wpAny_bind (wpAny_pure ?_)))))
  show wpAny _ _ (match Builtin.Slice.sliceAdjust none none (-1) (n : Int) with | (a, b) => pure (a, (-1 : Int), Builtin.Slice.slicePlaces a b (-1))) _ _ s
  have e1 : Builtin.Slice.sliceAdjust none none (-1) (n : Int) = ((n : Int) - 1, -1) := by
    unfold Builtin.Slice.sliceAdjust
    simp
  have e2 : Builtin.Slice.slicePlaces ((n : Int) - 1) (-1) (-1) = n := by
    unfold Builtin.Slice.slicePlaces
    simp
    omega
  rw [e1]
  show wpAny _ _ (pure ((n : Int) - 1, (-1 : Int), Builtin.Slice.slicePlaces ((n : Int) - 1) (-1) (-1))) _ _ s
  rw [e2]
  exact wpAny_pure h
theorem pick_back (xs : Array Value) : ((List.range xs.size).filterMap fun (k : Nat) => xs[((xs.size : Int) - 1 + (k : Int) * -1).toNat]?).toArray = xs.toList.reverse.toArray := by
  have e : (fun (k : Nat) => xs[((xs.size : Int) - 1 + (k : Int) * -1).toNat]?) = (fun (i : Nat) => xs[i]?) ∘ fun k => xs.size - 1 - k := by
    funext k
    show xs[((xs.size : Int) - 1 + (k : Int) * -1).toNat]? = xs[xs.size - 1 - k]?
    rw [show ((xs.size : Int) - 1 + (k : Int) * -1).toNat = xs.size - 1 - k by omega]
  rw [e, ← List.filterMap_map, PySem.W.krv_range, List.filterMap_reverse, PySem.W.krv_all]
theorem getItem_back {t sl : Addr} {items : Array Value} {x y z : Value} {Q : Value → Shared → Prop} (ht : IsTup s.heap t items) (hs : s.heap.IsSliceOf sl x y z) (px : IsPart x none) (py : IsPart y none) (pz : IsPart z (some (-1)))
    (h : Q (.ref s.heap.objs.size) { s with heap := s.heap.push { cls := .type "tuple", data := .seq items.toList.reverse.toArray } }) (hz : items.size ≤ sizeLine) : wpAny (model prog w) A (getItem (.ref t) (.ref sl)) Q E s := by
  have fits : sizeOk (.seq items.toList.reverse.toArray) := by
    show items.toList.reverse.toArray.size ≤ sizeLine
    rw [List.size_toArray, List.length_reverse, Array.length_toList]
    exact hz
  obtain ⟨o, ho, hc, hd⟩ := id hs
  have hT : s.TypeIs (.ref sl) "slice" := ⟨o, ho, hc⟩
  unfold getItem
  try with_reducible refine wpAny_holding ?_
  first | (refine wpAny_bind (wpAny_pure ?_)) | skip
  refine wpAny_bind (wpAny_sequenceKey ht.typeIs (by decide) ?_)
  refine wpAny_bind (wpAny_callSpecial?_slot (name := Str.ofString "__getitem__") ht.typeIs PyProof.Rows.slot_tuple_getitem (wpAny_call_entry PyProof.Rows.slot_tuple_getitem ht.typeIs entry_tuple_getitem ?_ (args_tuple_getitem _ _)))
  show wpAny _ _ (Builtin.Tuple.tupleItemsOf (.ref t) >>= _) _ _ s
  refine wpAny_bind (PyProof.Rows.tupleItemsOf_ ht ?_)
  refine wpAny_bind (wpAny_typeOf hT ?_)
  rw [if_pos (by decide)]
  refine wpAny_bind (applied_back hs px py pz ?_)
  have no : ¬ (((items.size : Int) - 1 == 0 && (-1 : Int) == 1 && items.size == items.size) = true) := by simp
  show wpAny _ _ (if ((items.size : Int) - 1 == 0 && (-1 : Int) == 1 && items.size == items.size) = true then _ else _) _ _ s
  rw [if_neg no, pick_back]
  first
    | exact wpAny_bind (m := Builtin.Tuple.tupleExact _) (wpAny_newObj_type (wpAny_pure ⟨_, rfl, wpAny_pure h⟩) fits)
    | exact wpAny_bind (m := Builtin.Tuple.tupleExact _) (wpAny_newObj_type (wpAny_bind (wpAny_pure (wpAny_pure ⟨_, rfl, wpAny_pure h⟩))) fits)
    | exact wpAny_bind (wpAny_bind (m := Builtin.Tuple.tupleExact _) (wpAny_newObj_type (wpAny_pure (wpAny_pure ⟨_, rfl, wpAny_pure h⟩)) fits))
    | exact wpAny_bind (wpAny_bind (m := Builtin.Tuple.tupleExact _) (wpAny_newObj_type (wpAny_pure ⟨_, rfl, wpAny_pure h⟩) fits))
end
section
variable {X : Cx}
theorem pe_backT {e : Expr} {te : TE} {k : Nat} {p1 p2 p3 pos : Pos} (he : PE X e te) : PE X (.Subscript e (.Slice none none (some (.UnaryOp .USub (.Constant (.int 1) k p1) p2)) p3) pos) (tTupRevT X.K te) := by
  refine ⟨fun pins s σ H Q I0 hq => ?_⟩
  refine Subscript_ (thn (he.run pins s σ H _ I0 hq) fun v s1 ⟨x, H1, I1, rx, q1⟩ => ?_)
  obtain ⟨a, xs, rfl, hx, q⟩ := q1
  cases rx
  have st : PO X (some (.UnaryOp .USub (.Constant (.int 1) k p1) p2)) (tPart (tUn (rU fun i => .int (-i)) (tC (.int 1)))) := po_some (pe_un un_neg pe_int)
  refine wpAny_Slice (thn (po_none.run pins s1 σ H1 (fun o H2 => o = none ∧ H2 = H1) I1 ⟨rfl, rfl⟩) fun u1 s2 ⟨o1, H2, I2, b1, c1, d1⟩ => ?_)
  subst c1 d1
  refine thn (po_none.run pins s2 σ H2 (fun o H3 => o = none ∧ H3 = H2) I2 ⟨rfl, rfl⟩) fun u2 s3 ⟨o2, H3, I3, b2, c2, d2⟩ => ?_
  subst c2 d2
  refine thn (st.run pins s3 σ H3 (fun o H4 => o = some (-1) ∧ H4 = H3) I3 ⟨1, rfl, -1, rfl, rfl, rfl⟩) fun u3 s4 ⟨o3, H4, I4, b3, c3, d3⟩ => ?_
  subst c3 d3
  have I5 : L2.Inv X pins σ H4 { s4 with heap := s4.heap.push { cls := .type "slice", data := .fields #[u1, u2, u3] } } := I4.kept (t' := s4.toks) fun b ob q => Heap.get?_push_of_some _ q
  obtain ⟨its, r, ht, hz⟩ := I5.tuple hx
  have hl : its.toArray.size = xs.length := by rw [List.size_toArray]; exact r.length.symm
  show wpAny (model X.prog X.w) X.A (subscriptTail e (.Slice none none (some (.UnaryOp .USub (.Constant (.int 1) k p1) p2)) p3) (.ref a) (.ref s4.heap.objs.size)) (EP X pins σ Q) X.xe { s4 with heap := s4.heap.push { cls := .type "slice", data := .fields #[u1, u2, u3] } }
  refine tail_any (ops := [.ref a, .ref s4.heap.objs.size]) ht.typeIs (PyProof.Rows.slot_tuple_getitem.lookup) ?_ (by with_unfolding_all rfl)
  refine getItem_back ht (Heap.IsSliceOf.new _ u1 u2 u3) b1 b2 b3 ?_ (by rw [hl]; exact hz)
  refine ⟨.ref _, _, I5.laid (t' := s4.toks) (o := .tup xs.reverse) (fun b ob q => Heap.get?_push_of_some _ q) (Nat.le_refl _) ?_, rfl, q _ (I5.hok.fresh (Nat.le_refl _))⟩
  exact ⟨by rw [List.length_reverse]; exact hz, _, r.reverse, IsTup.new _ _⟩
end
end Mu

/-! enumerate of a tuple -/
namespace Mu
open PySem PySem.Spec
open PyProof.Rows L2
abbrev tiO (l : Addr) : Obj := { cls := .type "tuple_iterator", data := .fields #[.ref l, .int 0 0] }
abbrev enO (it : Addr) : Obj := { cls := .type "enumerate", data := .fields #[.none, .bool false, .ref it, rawInt 0, .none, .none] }
theorem meets_enT (l : Addr) (items : Array Value) (n : Nat) (dct : Option Addr) (sl : Array (Option Value)) :
    Meets (Builtin.«enumerate.__new__» ⟨[.type "enumerate", .ref l], []⟩) (fun _ R s => s.heap.get? l = some { cls := .type "tuple", dict := dct, data := .seq items n, slots := sl } ∧
      R (.ok (.ret (.ref (s.heap.push (tiO l)).objs.size))) { s with heap := (s.heap.push (tiO l)).push (enO s.heap.objs.size) }) :=
  .of_wp fun prog w A R s h => by
    obtain ⟨hp, gs, dr, tk, os⟩ := s
    obtain ⟨h1, h2⟩ := h
    have sub1 := sub_enumerate
    have tup : Heap.IsTuple (Shared.heap ⟨hp, gs, dr, tk, os⟩) l items := ⟨_, h1, rfl, n, rfl⟩
    wp_walk using AutoSeq1.wpAny_loadPart' h1
    refine wpAny_stack_any fun _ => wpAny_pure ?_
    split
    · rename_i cls _ _ _ _ _
      cases (cls == Value.type "enumerate")
      all_goals
        wp_walk using AutoSeq1.wpAny_loadPart' h1, wpAny_pyIter_tuple tup
        exact ⟨_, rfl, h2⟩
    · wp_walk using AutoSeq1.wpAny_loadPart' h1, wpAny_pyIter_tuple tup
      exact ⟨_, rfl, h2⟩
theorem call_enT {prog : Program} {w : World} {A : Around} {E : Value → Shared → Prop} {s : Shared} {l : Addr} {items : Array Value} {Q : Value → Shared → Prop} (ht : s.heap.IsTuple l items)
    (h : ∀ h', IsEnum h' (s.heap.objs.size + 1) s.heap.objs.size 0 .none → h'.IsTupleIter s.heap.objs.size l 0 → (∀ b o, s.heap.get? b = some o → h'.get? b = some o) → Q (.ref (s.heap.objs.size + 1)) { s with heap := h' }) :
    wpAny (model prog w) A (call (.type "enumerate") [.ref l]) Q E s := by
  obtain ⟨⟨c, dct, dt, sl⟩, h1, h2, n, h3⟩ := ht
  obtain rfl : c = .type "tuple" := h2
  obtain rfl : dt = .seq items n := h3
  have size1 : (s.heap.push (tiO l)).objs.size = s.heap.objs.size + 1 := Heap.size_push ..
  have old : ∀ b o, s.heap.get? b = some o → ((s.heap.push (tiO l)).push (enO s.heap.objs.size)).get? b = some o := fun b o x => Heap.get?_push_of_some _ (Heap.get?_push_of_some _ x)
  refine callType_new F.called_enumerate (by decide) (F.typeCall_enumerate_1 _) (F.newCall_enumerate_1 _) (fun obj => F.args_object_init_2 obj _) F.entry_enumerate_new (meets_enT l items n dct sl) ⟨h1, ?_⟩
  show _ ∧ _
  rw [size1]
  have en : IsEnum ((s.heap.push (tiO l)).push (enO s.heap.objs.size)) (s.heap.objs.size + 1) s.heap.objs.size 0 .none := by
    have q := Heap.get?_push_size (s.heap.push (tiO l)) (o := enO s.heap.objs.size) rfl
    rw [size1] at q
    exact q
  exact ⟨⟨_, en, rfl⟩, h _ en ⟨_, Heap.get?_push_of_some _ (Heap.get?_push_size _ rfl), rfl, rfl⟩ old⟩
/-- the tuple at a as it stands at each turn, each item in a new pair -/
def IteT (K : PySem.W.Frag) (a : Addr) : L2.It :=
  ⟨fun i H => ∃ (xs : List V) (x : V), SqT K H a xs ∧ xs[i]? = some x,
    fun i H v H' => ∃ T x, v = .ref T ∧ H T = none ∧ H' = upd H T (.tup [.int (i : Nat), x]) ∧ ∀ xs, SqT K H a xs → xs[i]? = some x,
    fun i H => ∃ xs : List V, SqT K H a xs ∧ xs.length = i⟩
theorem turn_enT {P : Program} {w : World} {K : PySem.W.Frag} {elts : List Expr} {kk : Nat} {tpos : Pos} (a e it : Addr) :
    Turn P w K (.Tuple elts kk tpos) (IteT K a) [e, it] e (fun i h => ((∃ old, IsEnum h e it ((i : Nat) : Int) old) ∧ h.IsTupleIter it a i) ∧ e ≠ it ∧ a ≠ it ∧ e ≠ a) where
  mem := by simp
  obj := fun i h st b hb => by
    obtain ⟨⟨⟨old, he⟩, ⟨o, ho, _, hd⟩⟩, _⟩ := st
    have two : b = e ∨ b = it := by simpa using hb
    rcases two with rfl | rfl
    · exact ⟨_, he, fun v q => nomatch q⟩
    · exact ⟨o, ho, fun v q => by rw [hd] at q; cases q⟩
  keep := fun i h h' st k => by
    obtain ⟨⟨⟨old, he⟩, hi⟩, ne⟩ := st
    exact ⟨⟨⟨old, k e (by simp) _ he⟩, hi.at fun o q => k it (by simp) o q⟩, ne⟩
  item := by
    intro X hP hw hK hc i pins s σ H E I hf st hg
    subst hP hw hK
    obtain ⟨⟨⟨old, he⟩, hit⟩, n1, n2, n3⟩ := st
    obtain ⟨xs, x, hq, hx⟩ := hg
    obtain ⟨its, rv, p, _⟩ := I.tuple hq
    obtain ⟨u, hu, ru⟩ := rv.get hx
    have le : e < s.heap.objs.size := Heap.lt_size he
    have li : it < s.heap.objs.size := by
      obtain ⟨_, q, _⟩ := hit
      exact Heap.lt_size q
    have hi : i < its.toArray.size := by
      rcases Nat.lt_or_ge i its.length with q | q
      · simpa using q
      · rw [List.getElem?_eq_none q] at hu; cases hu
    refine wpAny_pyNext_enum_itemD (Draws.tuple (A := X.A.in1) (show X.A.in1.handled = none from I.ok.hd hc) it a n2 its.toArray) he ⟨hit, p⟩ hi n1 (by simp [n1, n3]) fun y h' tk hy ho st' hT _ hk => ?_
    have ey : y = u := by
      have hy : its.toArray[i]? = some y := hy
      rw [List.getElem?_toArray, hu] at hy
      exact (Option.some.inj hy).symm
    subst ey
    refine ⟨_, rfl, wpAny_letOwnedTupleGo_enum (s := { s with heap := h', toks := tk + 1 }) ho fun h'' he' sb => ?_⟩
    have hT2 : h''.get? s.heap.objs.size = some { cls := .type "tuple", data := .seq #[.int i tk, y] } := (sb.2 _ (Nat.ne_of_gt le)).trans hT
    have new : ObjOk X.prog X.w (upd H s.heap.objs.size (.tup [.int (i : Nat), x])) h'' s.heap.objs.size (.tup [.int (i : Nat), x]) :=
      ⟨show 2 ≤ sizeLine by decide, [.int i tk, y], .cons ⟨_, rfl⟩ (.cons ru .nil), ⟨_, hT2, rfl, _, rfl⟩⟩
    have I1 : Inv X pins σ (upd H s.heap.objs.size (.tup [.int (i : Nat), x])) { s with heap := h'', toks := tk + 1 } :=
      I.turnedNew (ch := [e, it]) (fun b ob hb q => (sb.2 b fun z => hb (by simp [z])).trans (hk b ob (fun z => hb (by simp [z])) (fun z => hb (by simp [z])) q)) hf (Nat.le_refl _) new
    refine ⟨.ref s.heap.objs.size, _, I1, rfl, ⟨_, x, rfl, I.hok.fresh (Nat.le_refl _), rfl, fun ys hy => by rw [I.tuple_inj hy hq]; exact hx⟩, ⟨⟨⟨y, ?_⟩, st'.1.at fun o q => (sb.2 it (Ne.symm n1)).trans q⟩, n1, n2, n3⟩, fun b hb => ?_⟩
    · have e1 : ((i + 1 : Nat) : Int) = (i : Int) + 1 := by omega
      rw [e1]; exact he'
    · have lb : b < s.heap.objs.size := by
        have two : b = e ∨ b = it := by simpa using hb
        rcases two with rfl | rfl
        · exact le
        · exact li
      rw [upd_ne (Nat.ne_of_lt lb)]
      exact (hf b hb).1
  done := by
    intro X hP hw hK hc i pins s σ H E I hf st hg
    subst hP hw hK
    obtain ⟨⟨⟨old, he⟩, hit⟩, n1, n2, n3⟩ := st
    obtain ⟨xs, hq, hx⟩ := hg
    obtain ⟨its, rv, p, _⟩ := I.tuple hq
    obtain ⟨f0, f1, f2, f3, f4, f5⟩ := hf it (by simp)
    have hl := rv.length
    have size : its.toArray.size = i := by rw [List.size_toArray]; omega
    subst size
    exact wpAny_pyNext_enum_endD (Draws.tuple (A := X.A.in1) (show X.A.in1.handled = none from I.ok.hd hc) it a n2 its.toArray) he ⟨hit, p⟩ fun h' eb => ⟨rfl, I.turned (t' := s.toks) (fun b o hb q => eb b o hb q) f0 f1 f3 f4 f5⟩
  self := fun A i s Q E st h => let ⟨⟨⟨_, he⟩, _⟩, _⟩ := st; wpAny_pyIter_enum he h
def iEnT (K : PySem.W.Frag) (ta : TA) : TI := fun σ H R => ta σ H fun vs H1 => ∃ a xs, vs = [.ref a] ∧ SqT K H1 a xs ∧ R (IteT K a) H1
theorem pi_enT {X : Cx} {e : Expr} {ta : TA} {p pos tpos : Pos} {elts : List Expr} {kk : Nat} (hg : Gl X "enumerate") (hm : X.mg "enumerate" = none) (ha : PA X [e] ta) (hs : starEach [e] X.env = [(false, eval e X.env)]) :
    PI X (.Tuple elts kk tpos) (.Call (.Name "enumerate" p) [e] [] pos) (iEnT X.K ta) := by
  refine ⟨fun pins s σ H R I h => ?_⟩
  refine Call_ (ld_blt I hg hm boot_enumerate (PyProof.Rows.callWith_type1 (thn (ha.run pos pins s σ H _ I h) fun us s1 ⟨vs, H1, I1, r1, q1⟩ => ?_) hs rfl))
  obtain ⟨a, xs, rfl, hq, q⟩ := q1
  cases r1 with
  | cons r rr =>
    cases rr
    cases r
    obtain ⟨its, rv, p', hz⟩ := I1.tuple hq
    have la : a < s1.heap.objs.size := by
      obtain ⟨o, ho, _⟩ := id p'
      exact Heap.lt_size ho
    refine call_enT (show s1.heap.IsTuple a its.toArray from p') fun h' he hit hk => wpAny_pyIter_enum he ?_
    have I2 : Inv X pins σ H1 { s1 with heap := h' } := I1.kept (t' := s1.toks) hk
    refine ⟨s1.heap.objs.size + 1, [s1.heap.objs.size + 1, s1.heap.objs.size], _, _, H1, rfl, I2, turn_enT a (s1.heap.objs.size + 1) s1.heap.objs.size, ⟨⟨⟨.none, he⟩, hit⟩, Nat.succ_ne_self _, Nat.ne_of_lt la, Nat.ne_of_gt (Nat.lt_succ_of_lt la)⟩, fun b hb => ?_, q⟩
    have lb : s1.heap.objs.size ≤ b := by
      have two : b = s1.heap.objs.size + 1 ∨ b = s1.heap.objs.size := by simpa using hb
      rcases two with z | z
      · rw [z]; exact Nat.le_add_right _ _
      · rw [z]; exact Nat.le_refl _
    exact I1.fpOk lb (I1.hok.fresh lb)
end Mu

namespace Mu
open PySem PySem.Spec PyProof.Rows L2 LamX NdefX
variable {X : Cx} {S : ST} {O : OF} {c : Sc} {C : Cons} {k : Nat} {F : Calls}

/-! ### targets -/
def gsOf : List Nat → TGs
  | [] => gNil
  | i :: is => gCons (gName i) (gsOf is)
def gOf (K : PySem.W.Frag) : Tg → TG
  | .nm i => gName i
  | .tp is => gTup K is.length (gsOf is)
theorem wipe_comm (σ : L2.St) (i : Nat) : ∀ vs : List Nat, wipe (σ.set i none) vs = (wipe σ vs).set i none
  | [] => rfl
  | v :: vs => by
    show (wipe (σ.set i none) vs).set v none = ((wipe σ vs).set v none).set i none
    rw [wipe_comm σ i vs]
    by_cases h : i = v
    · subst h; rfl
    · rw [List.set_comm _ _ h]
theorem wipe_set {i : Nat} {x : Option V} : ∀ {vs : List Nat} {σ : L2.St}, i ∈ vs → wipe (σ.set i x) vs = wipe σ vs
  | v :: vs, σ, h => by
    show (wipe (σ.set i x) vs).set v none = (wipe σ vs).set v none
    by_cases hv : i ∈ vs
    · rw [wipe_set hv]
    · have e : i = v := by
        rcases List.mem_cons.mp h with e | h
        · exact e
        · exact absurd h hv
      subst e
      have : ∀ (vs : List Nat) (σ : L2.St), i ∉ vs → wipe (σ.set i x) vs = (wipe σ vs).set i x := by
        intro vs
        induction vs with
        | nil => intro σ _; rfl
        | cons w ws ih =>
          intro σ hn
          have h1 : i ≠ w := fun e => hn (e ▸ List.mem_cons_self)
          have h2 : i ∉ ws := fun e => hn (List.mem_cons_of_mem _ e)
          show (wipe (σ.set i x) ws).set w none = ((wipe σ ws).set w none).set i x
          rw [ih σ h2, List.set_comm _ _ h1]
      rw [this vs σ hv, List.set_set]
theorem wipe_idem (σ : L2.St) : ∀ vs : List Nat, wipe (wipe σ vs) vs = wipe σ vs
  | [] => rfl
  | v :: vs => by
    show (wipe ((wipe σ vs).set v none) vs).set v none = (wipe σ vs).set v none
    rw [wipe_comm, wipe_idem σ vs, List.set_set]
theorem gs_go {K : PySem.W.Frag} {M : Nat → Addr} {G : Hp} {H : Hp} : ∀ {is : List Nat} {ds : List D} {vs : List V} {ρ ρ1 : Rho} {σ : L2.St} {Q : L2.St → Hp → Prop}, RR K S O M G ρ σ → RpA K G vs ds → setAll ρ is ds = some ρ1 →
    (∀ σ1, RR K S O M G ρ1 σ1 → (∀ ws, (∀ i ∈ is, i ∈ ws) → wipe σ1 ws = wipe σ ws) → Q σ1 H) → gsOf is vs σ H Q
  | [], [], vs, ρ, ρ1, σ, Q, rr, r, e, q => by
    cases r
    simp only [setAll, Option.some.injEq] at e
    subst e
    exact ⟨rfl, q σ rr fun _ _ => rfl⟩
  | [], _ :: _, _, _, _, _, _, _, _, e, _ => by simp [setAll] at e
  | _ :: _, [], _, _, _, _, _, _, _, e, _ => by simp [setAll] at e
  | i :: is, d :: ds, vs, ρ, ρ1, σ, Q, rr, r, e, q => by
    cases r with
    | cons h t =>
      simp only [setAll] at e
      refine ⟨_, _, rfl, ?_⟩
      refine gs_go (rr.set (.d h)) t e fun σ1 rr1 hw => q σ1 rr1 fun ws hs => ?_
      rw [hw ws fun j hj => hs j (List.mem_cons_of_mem _ hj), wipe_set (hs i List.mem_cons_self)]
theorem setAll_len : ∀ {is : List Nat} {ds : List D} {ρ ρ1 : Rho}, setAll ρ is ds = some ρ1 → ds.length = is.length
  | [], [], _, _, _ => rfl
  | [], _ :: _, _, _, e => by simp [setAll] at e
  | _ :: _, [], _, _, e => by simp [setAll] at e
  | i :: is, d :: ds, ρ, ρ1, e => by
    simp only [setAll] at e
    simp only [List.length_cons, setAll_len e]
theorem tg_go {K : PySem.W.Frag} {Fr : Hp} {M : Nat → Addr} {G H : Hp} {μ : Store} {tg : Tg} {d : D} {v : V} {ρ ρ1 : Rho} {σ : L2.St} {Q : L2.St → Hp → Prop} (s : SS K S Fr M G H μ) (rr : RR K S O M G ρ σ) (r : Rp K G v d) (e : tgS ρ tg d = some ρ1)
    (q : ∀ σ1, RR K S O M G ρ1 σ1 → (∀ ws, (∀ i ∈ tg.ix, i ∈ ws) → wipe σ1 ws = wipe σ ws) → Q σ1 H) : gOf K tg v σ H Q := by
  cases tg with
  | nm i =>
    simp only [tgS, Option.some.injEq] at e
    subst e
    exact q _ (rr.set (.d r)) fun ws hs => wipe_set (hs i (by simp [Tg.ix]))
  | tp is =>
    cases d with
    | tuple xs =>
      simp only [tgS] at e
      cases r with
      | tup h r z => exact ⟨_, _, rfl, s.sub.sqt h, by rw [r.length, setAll_len e], gs_go rr r e q⟩
    | _ => simp [tgS] at e
theorem ckNm_pg {N : List Str} {fn : Str → Bool} {i : Nat} {e : Expr} (h : ckNm N X.env.scope fn i e = true) (hN : X.N = N) (nd : X.N.Nodup) (hf : ∀ x, locB X.env.scope x = true → fn x = true → X.fn x = true ∨ X.env.scope.names.lookup x = some .local) : PG X e (gName i) := by
  cases e with
  | Name x pos =>
    simp only [ckNm, Bool.and_eq_true, Bool.or_eq_true, decide_eq_true_eq, locB] at h
    exact pg_name nd (by rw [hN]; exact h.1.1) h.1.2 (h.2.elim (hf x (by simp only [locB, Bool.or_eq_true, decide_eq_true_eq]; exact h.1.2)) .inr)
  | _ => exact absurd (show false = true from h) Bool.false_ne_true
theorem ckNms_pg {N : List Str} {fn : Str → Bool} (hN : X.N = N) (nd : X.N.Nodup) (hf : ∀ x, locB X.env.scope x = true → fn x = true → X.fn x = true ∨ X.env.scope.names.lookup x = some .local) : ∀ {is : List Nat} {es : List Expr}, ckNms N X.env.scope fn is es = true →
    PGs X es (gsOf is) ∧ (assignEach es X.env).length = is.length ∧ (assignEach es X.env).findIdx? (·.1) = none
  | [], [], _ => ⟨pgs_nil, rfl, rfl⟩
  | [], _ :: _, h => by simp [ckNms] at h
  | _ :: _, [], h => by simp [ckNms] at h
  | i :: is, e :: es, h => by
    simp only [ckNms, Bool.and_eq_true] at h
    obtain ⟨a, b, d⟩ := ckNms_pg hN nd hf h.2
    have p := ckNm_pg h.1 hN nd hf
    cases e with
    | Name x pos =>
      refine ⟨pgs_cons p a rfl, by show _ + 1 = _ + 1; rw [b], ?_⟩
      show List.findIdx? (·.1) ((false, assign (.Name x pos) X.env) :: assignEach es X.env) = none
      rw [List.findIdx?_cons, d]
      rfl
    | _ => exact absurd (show false = true from h.1) Bool.false_ne_true
theorem ckTg_pg {N : List Str} {fn : Str → Bool} {tg : Tg} {e : Expr} (h : ckTg N X.env.scope fn tg e = true) (hN : X.N = N) (nd : X.N.Nodup) (calm : X.calm = true) (hf : ∀ x, locB X.env.scope x = true → fn x = true → X.fn x = true ∨ X.env.scope.names.lookup x = some .local) : PG X e (gOf X.K tg) := by
  cases tg with
  | nm i => exact ckNm_pg h hN nd hf
  | tp is =>
    cases e with
    | Tuple ts j pos =>
      obtain ⟨a, b, d⟩ := ckNms_pg hN nd hf (show ckNms N X.env.scope fn is ts = true from h)
      exact pg_tup calm a b d
    | _ => exact absurd (show false = true from h) Bool.false_ne_true

/-! ### what is walked -/
theorem still_d (x : D) (xs : List D) (μ : Store) : Still (.d x) xs μ = True := rfl
theorem wk_list {K : PySem.W.Frag} {Fr : Hp} {M : Nat → Addr} {G H : Hp} {μ : Store} {a : Addr} {v : Val} {xs : List D} (s : SS K S Fr M G H μ) (r : RV K S O M G (.ref a) v) (e : deref μ v = some (.list xs)) : Wk K S M G (Itl K a) xs v := by
  have at' : ∀ (Fr : Hp) (M' : Nat → Addr) (H' G' : Hp) (μ' : Store), SS K S Fr M' G' H' μ' → Le G G' → AgV M M' v → Still v xs μ' → ∃ vs, SqL K H' a vs ∧ RpA K G' vs xs := fun Fr M' H' G' μ' s' l ag st => by
    cases r with
    | d r =>
      simp only [deref, Option.some.injEq] at e
      subst e
      cases r with
      | lst h r z => exact ⟨_, (s'.sub.lsx (l.lsx h)).sql, r.mono l⟩
    | p i =>
      obtain ⟨vs, h1, h2, _⟩ := s'.cell i xs st
      rw [show M' i = M i from ag] at h1
      exact ⟨vs, .inl (.inl h1), h2⟩
    | c _ => cases e
    | o _ _ _ => cases e
  refine ⟨fun Fr M' i H' G' μ' s' l ag st hi => ?_, fun Fr M' i H' G' μ' x H2 s' l ag st hi y => ?_, fun Fr M' H' G' μ' s' l ag st => ?_⟩
  · obtain ⟨vs, h1, h2⟩ := at' Fr M' H' G' μ' s' l ag st
    have hv : i < vs.length := by rw [h2.length]; exact hi
    exact ⟨vs, vs[i], h1, List.getElem?_eq_getElem hv⟩
  · obtain ⟨vs, h1, h2⟩ := at' Fr M' H' G' μ' s' l ag st
    obtain ⟨e1, e2⟩ := y
    obtain ⟨d, h3, h4⟩ := h2.get' (e2 vs h1)
    subst e1
    exact ⟨G', Le.rfl' _, s', d, h3, h4⟩
  · obtain ⟨vs, h1, h2⟩ := at' Fr M' H' G' μ' s' l ag st
    exact ⟨vs, h1, by rw [h2.length]; exact Nat.le_refl _⟩
theorem wk_tup {K : PySem.W.Frag} {Fr : Hp} {M : Nat → Addr} {G H : Hp} {μ : Store} {a : Addr} {v : Val} {xs : List D} (s : SS K S Fr M G H μ) (r : RV K S O M G (.ref a) v) (e : deref μ v = some (.tuple xs)) : Wk K S M G (Itt K a) xs v := by
  have at' : ∀ (Fr : Hp) (M' : Nat → Addr) (H' G' : Hp) (μ' : Store), SS K S Fr M' G' H' μ' → Le G G' → ∃ vs, SqT K H' a vs ∧ RpA K G' vs xs := fun Fr M' H' G' μ' s' l => by
    cases r with
    | d r =>
      simp only [deref, Option.some.injEq] at e
      subst e
      cases r with
      | tup h r z => exact ⟨_, s'.sub.sqt (l.sqt h), r.mono l⟩
    | p i => unfold deref at e; simp only at e; split at e <;> cases e
    | c _ => cases e
    | o _ _ => cases e
  refine ⟨fun Fr M' i H' G' μ' s' l ag st hi => ?_, fun Fr M' i H' G' μ' x H2 s' l ag st hi y => ?_, fun Fr M' H' G' μ' s' l ag st => ?_⟩
  · obtain ⟨vs, h1, h2⟩ := at' Fr M' H' G' μ' s' l
    have hv : i < vs.length := by rw [h2.length]; exact hi
    exact ⟨vs, vs[i], h1, List.getElem?_eq_getElem hv⟩
  · obtain ⟨vs, h1, h2⟩ := at' Fr M' H' G' μ' s' l
    obtain ⟨e1, e2⟩ := y
    obtain ⟨d, h3, h4⟩ := h2.get' (e2 vs h1)
    subst e1
    exact ⟨G', Le.rfl' _, s', d, h3, h4⟩
  · obtain ⟨vs, h1, h2⟩ := at' Fr M' H' G' μ' s' l
    exact ⟨vs, h1, by rw [h2.length]; exact Nat.le_refl _⟩
theorem still_of {μ : Store} {v : Val} {xs : List D} (e : deref μ v = some (.list xs)) : Still v xs μ := by
  cases v with
  | d x => trivial
  | p i =>
    unfold deref at e
    simp only at e
    split at e
    · rename_i ds hd
      cases e
      exact hd
    · cases e
  | c _ _ => cases e
  | o _ _ => cases e
theorem still_tup {μ : Store} {v : Val} {xs : List D} (e : deref μ v = some (.tuple xs)) : Still v xs μ := by
  cases v with
  | d x => trivial
  | p i => unfold deref at e; simp only at e; split at e <;> cases e
  | c _ _ => cases e
  | o _ _ => cases e
theorem rng_len (a b : Int) : (rngD a b).length = (b - a).toNat := by simp [rngD]
theorem wk_rng {K : PySem.W.Frag} {M : Nat → Addr} {G : Hp} {a b : Int} {n : Nat} (hn : n = (b - a).toNat) : Wk K S M G (Itr a n) (rngD a b) (.d .none) := by
  refine ⟨fun Fr M' i H' G' μ' s' l ag st hi => ?_, fun Fr M' i H' G' μ' x H2 s' l ag st hi y => ?_, fun Fr M' H' G' μ' s' l ag st => ?_⟩
  · rw [rng_len] at hi
    show i < n
    omega
  · obtain ⟨e1, e2⟩ := y
    subst e2
    rw [rng_len] at hi
    subst e1
    refine ⟨G', Le.rfl' _, s', .int (a + i), ?_, .int _⟩
    simp [rngD, hi]
  · show n ≤ (rngD a b).length
    rw [rng_len, hn]
    exact Nat.le_refl _
theorem rngOk_of {a b : Int} (h : rngOk a b = true) : (-(2 ^ 62) ≤ a ∧ a < 2 ^ 62 ∧ -(2 ^ 62) ≤ b ∧ b < 2 ^ 62) ∧ (b - a).toNat ≤ sizeLine := by
  simp only [rngOk, Bool.and_eq_true, decide_eq_true_eq] at h
  exact ⟨⟨h.1.1.1.1, h.1.1.1.2, h.1.1.2, h.1.2⟩, h.2⟩
theorem snd_seq {tg e : Expr} {m : E} (h : PE X e (tv X.K S O (evE C F m))) : PI X tg e (tvI X.K S O (evI C F (.seq m))) := by
  refine ((pi_list (tg := tg) h).or (pi_tup h)).wk fun σ H R q => ?_
  obtain ⟨Fr, M, G, ρ, μ, xs, v, μ', s, rr, e, q⟩ := q
  simp only [evI] at e
  obtain ⟨⟨w, μ1⟩, e1, e⟩ := bnd e
  obtain ⟨x, e2, e⟩ := bnd e
  cases x with
  | list ys =>
    cases e
    refine .inl (tv_go s rr e1 fun y H1 G1 l1 s1 n1 r1 => ?_)
    obtain ⟨a, vs, rfl, h1, h2, z⟩ := s1.rdL r1 e2
    exact ⟨a, rfl, ⟨vs, h1.sql⟩, q _ H1 G1 l1 s1 n1 z (still_of e2) (wk_list s1 r1 e2)⟩
  | tuple ys =>
    cases e
    refine .inr (tv_go s rr e1 fun y H1 G1 l1 s1 n1 r1 => ?_)
    obtain ⟨a, vs, rfl, h1, h2, z⟩ := s1.rdT r1 e2
    exact ⟨a, rfl, ⟨vs, h1⟩, q _ H1 G1 l1 s1 n1 z (still_tup e2) (wk_tup s1 r1 e2)⟩
  | _ => cases e
theorem snd_rng (g : Good X S O c C k F) {tg e : Expr} {m : E} {p pos : Pos} (hg : glB X.env.scope ("range" : Str) = true) (h : PE X e (tv X.K S O (evE C F m))) (pe : plainX e = true) : PI X tg (.Call (.Name "range" p) [e] [] pos) (tvI X.K S O (evI C F (.rng m))) := by
  have hs : starEach [e] X.env = [(false, eval e X.env)] := star_of pe
  refine (pi_range1 (tg := tg) (g.gl hg).1 (blt_of g "range" (by decide)) (pa_cons h pa_nil hs) hs).wk fun σ H R q => ?_
  obtain ⟨Fr, M, G, ρ, μ, xs, v, μ', s, rr, e, q⟩ := q
  simp only [evI] at e
  obtain ⟨⟨b, μ1⟩, e1, e⟩ := bnd e
  split at e
  · rename_i hb
    cases e
    obtain ⟨hb1, hb2⟩ := rngOk_of hb
    refine tv_go s rr (toI_some e1) fun y H1 G1 l1 s1 n1 r1 => ?_
    cases r1 with
    | d r1 =>
      cases r1
      exact ⟨b, rfl, hb1.2.2.1, hb1.2.2.2, q _ H1 G1 l1 s1 n1 (by rw [rng_len]; exact hb2) trivial (wk_rng (by rw [Int.sub_zero]))⟩
  · cases e
theorem snd_rng2 (g : Good X S O c C k F) {tg e e' : Expr} {m m' : E} {p pos : Pos} (hg : glB X.env.scope ("range" : Str) = true) (h : PE X e (tv X.K S O (evE C F m))) (h' : PE X e' (tv X.K S O (evE C F m'))) (pe : plainX e = true) (pe' : plainX e' = true) :
    PI X tg (.Call (.Name "range" p) [e, e'] [] pos) (tvI X.K S O (evI C F (.rng2 m m'))) := by
  have hs' : starEach [e'] X.env = [(false, eval e' X.env)] := star_of pe'
  have hs : starEach [e, e'] X.env = [(false, eval e X.env), (false, eval e' X.env)] := by rw [star_of pe, hs']
  refine (pi_range2 (tg := tg) (g.gl hg).1 (blt_of g "range" (by decide)) (pa_cons h (pa_cons h' pa_nil hs') (star_of pe)) hs hs').wk fun σ H R q => ?_
  obtain ⟨Fr, M, G, ρ, μ, xs, v, μ', s, rr, e, q⟩ := q
  simp only [evI] at e
  obtain ⟨⟨a, μ1⟩, e1, e⟩ := bnd e
  obtain ⟨⟨b, μ2⟩, e2, e⟩ := bnd e
  split at e
  · rename_i hb
    cases e
    obtain ⟨hb1, hb2⟩ := rngOk_of hb
    refine tv_go s rr (toI_some e1) fun y H1 G1 l1 s1 n1 r1 => tv_go s1 (rr.mono l1) (toI_some e2) fun y' H2 G2 l2 s2 n2 r2 => ?_
    cases r1 with
    | d r1 =>
      cases r1
      cases r2 with
      | d r2 =>
        cases r2
        exact ⟨a, b, rfl, hb1, q _ H2 G2 (l1.trans l2) s2 (n2.trans n1) (by rw [rng_len]; exact hb2) trivial (wk_rng rfl)⟩
  · cases e

theorem rngB_len (a b : Int) : (rngB a b).length = (a - b).toNat := by simp [rngB]
theorem wk_rngB {K : PySem.W.Frag} {M : Nat → Addr} {G : Hp} {a b : Int} {n : Nat} (hn : n = (a - b).toNat) : Wk K S M G (Itc a (-1) n) (rngB a b) (.d .none) := by
  refine ⟨fun Fr M' i H' G' μ' s' l ag st hi => ?_, fun Fr M' i H' G' μ' x H2 s' l ag st hi y => ?_, fun Fr M' H' G' μ' s' l ag st => ?_⟩
  · rw [rngB_len] at hi
    show i < n
    omega
  · obtain ⟨e1, e2⟩ := y
    subst e2
    rw [rngB_len] at hi
    subst e1
    refine ⟨G', Le.rfl' _, s', .int (a + i * -1), ?_, .int _⟩
    simp [rngB, hi]
  · show n ≤ (rngB a b).length
    rw [rngB_len, hn]
    exact Nat.le_refl _
theorem snd_rng3 (g : Good X S O c C k F) {tg e e' e'' : Expr} {m m' m'' : E} {p pos : Pos} (hg : glB X.env.scope ("range" : Str) = true) (h : PE X e (tv X.K S O (evE C F m))) (h' : PE X e' (tv X.K S O (evE C F m'))) (h'' : PE X e'' (tv X.K S O (evE C F m''))) (pe : plainX e = true) (pe' : plainX e' = true) (pe'' : plainX e'' = true) :
    PI X tg (.Call (.Name "range" p) [e, e', e''] [] pos) (tvI X.K S O (evI C F (.rng3 m m' m''))) := by
  have hs3 : starEach [e''] X.env = [(false, eval e'' X.env)] := star_of pe''
  have hs2 : starEach [e', e''] X.env = (false, eval e' X.env) :: starEach [e''] X.env := star_of pe'
  have hs : starEach [e, e', e''] X.env = (false, eval e X.env) :: starEach [e', e''] X.env := star_of pe
  refine (pi_range3 (tg := tg) (g.gl hg).1 (blt_of g "range" (by decide)) (pa_cons h (pa_cons h' (pa_cons h'' pa_nil hs3) hs2) hs) hs (by rw [hs2, hs3]; rfl)).wk fun σ H R q => ?_
  obtain ⟨Fr, M, G, ρ, μ, xs, v, μ', s, rr, e, q⟩ := q
  simp only [evI] at e
  obtain ⟨⟨a, μ1⟩, e1, e⟩ := bnd e
  obtain ⟨⟨b, μ2⟩, e2, e⟩ := bnd e
  obtain ⟨⟨d, μ3⟩, e3, e⟩ := bnd e
  dsimp only at e
  split at e
  · rename_i hb
    cases e
    obtain ⟨rfl, hb⟩ := hb
    obtain ⟨⟨b1, b2, b3, b4⟩, hb2⟩ := rngOk_of hb
    refine tv_go s rr (toI_some e1) fun y H1 G1 l1 s1 n1 r1 => tv_go s1 (rr.mono l1) (toI_some e2) fun y' H2 G2 l2 s2 n2 r2 => tv_go s2 ((rr.mono l1).mono l2) (toI_some e3) fun y'' H3 G3 l3 s3 n3 r3 => ?_
    cases r1 with
    | d r1 =>
      cases r1
      cases r2 with
      | d r2 =>
        cases r2
        cases r3 with
        | d r3 =>
          cases r3
          exact ⟨a, b, -1, (a - b).toNat, rfl, RgC.neg b3 b4 b1 b2, q _ H3 G3 ((l1.trans l2).trans l3) s3 (n3.trans (n2.trans n1)) (by rw [rngB_len]; exact hb2) trivial (wk_rngB rfl)⟩
  · cases e

/-! ### zip of two tuples -/
theorem zipD_get {xs ys : List D} {i : Nat} {x y : D} (hx : xs[i]? = some x) (hy : ys[i]? = some y) : (zipD xs ys)[i]? = some (.tuple [x, y]) := by
  unfold zipD
  rw [List.getElem?_zipWith, hx, hy]
theorem wk_zip {K : PySem.W.Frag} {M : Nat → Addr} {G : Hp} {a b : Addr} {vs ws : List V} {xs ys : List D} (ha : SqT K G a vs) (ra : RpA K G vs xs) (hb : SqT K G b ws) (rb : RpA K G ws ys) : Wk K S M G (RZ.ItzT K a b) (zipD xs ys) (.d .none) := by
  have hl : (zipD xs ys).length = min xs.length ys.length := List.length_zipWith
  refine ⟨fun Fr M' i H' G' μ' s' l ag st hi => ?_, fun Fr M' i H' G' μ' x H2 s' l ag st hi y => ?_, fun Fr M' H' G' μ' s' l ag st => ?_⟩
  · rw [hl] at hi
    have h1 : i < vs.length := by rw [ra.length]; omega
    have h2 : i < ws.length := by rw [rb.length]; omega
    exact ⟨vs, ws, vs[i], ws[i], s'.sub.sqt (l.sqt ha), s'.sub.sqt (l.sqt hb), List.getElem?_eq_getElem h1, List.getElem?_eq_getElem h2⟩
  · obtain ⟨T, u, w, rfl, hT, rfl, h1, h2⟩ := y
    obtain ⟨dx, e1, r1⟩ := (ra.mono l).get' (h1 vs (s'.sub.sqt (l.sqt ha)))
    obtain ⟨dy, e2, r2⟩ := (rb.mono l).get' (h2 ws (s'.sub.sqt (l.sqt hb)))
    obtain ⟨s2, l2⟩ := s'.new (o := .tup [u, w]) hT
    exact ⟨_, l2, s2, _, zipD_get e1 e2, .tup (.inl (.inl upd_same)) (.cons (r1.mono l2) (.cons (r2.mono l2) .nil)) (show 2 ≤ sizeLine by decide)⟩
  · refine ⟨vs, ws, s'.sub.sqt (l.sqt ha), s'.sub.sqt (l.sqt hb), ?_⟩
    rw [hl, ra.length, rb.length]
    omega
theorem zipV_some {v w : Val} {zs : List D} (h : zipV v w = some zs) : ∃ xs ys, v = .d (.tuple xs) ∧ w = .d (.tuple ys) ∧ zs = zipD xs ys := by
  unfold zipV at h
  split at h
  · cases h; exact ⟨_, _, rfl, rfl, rfl⟩
  · cases h
theorem snd_zip (g : Good X S O c C k F) {elts : List Expr} {kk : Nat} {tpos : Pos} {e e' : Expr} {m m' : E} {p pos : Pos} (hg : glB X.env.scope ("zip" : Str) = true) (h : PE X e (tv X.K S O (evE C F m))) (h' : PE X e' (tv X.K S O (evE C F m'))) (pe : plainX e = true) (pe' : plainX e' = true) :
    PI X (.Tuple elts kk tpos) (.Call (.Name "zip" p) [e, e'] [] pos) (tvI X.K S O (evI C F (.zip m m'))) := by
  have hs' : starEach [e'] X.env = [(false, eval e' X.env)] := star_of pe'
  have hs : starEach [e, e'] X.env = (false, eval e X.env) :: starEach [e'] X.env := star_of pe
  refine (RZ.pi_zipA (g.gl hg).1 (blt_of g "zip" (by decide)) (pa_cons h (pa_cons h' pa_nil hs') hs) hs (by rw [hs']; rfl)).wk fun σ H R q => ?_
  obtain ⟨Fr, M, G, ρ, μ, xs, v, μ', s, rr, e, q⟩ := q
  simp only [evI] at e
  obtain ⟨⟨v1, μ1⟩, e1, e⟩ := bnd e
  obtain ⟨⟨w1, μ2⟩, e2, e⟩ := bnd e
  obtain ⟨zs, e3, e⟩ := Option.map_eq_some_iff.mp e
  cases e
  obtain ⟨xs, ys, rfl, rfl, rfl⟩ := zipV_some e3
  refine tv_go s rr e1 fun y H1 G1 l1 s1 n1 r1 => tv_go s1 (rr.mono l1) e2 fun y' H2 G2 l2 s2 n2 r2 => ?_
  cases r1 with
  | d r1 =>
    cases r2 with
    | d r2 =>
      cases r1 with
      | tup h1 ra z1 =>
        cases r2 with
        | tup h2 rb z2 =>
          exact ⟨_, _, _, _, rfl, .inr ⟨s2.sub.sqt (l2.sqt h1), s2.sub.sqt h2, q _ H2 G2 (l1.trans l2) s2 (n2.trans n1) (by show (zipD _ _).length ≤ _; unfold zipD; rw [List.length_zipWith]; omega) trivial (wk_zip (l2.sqt h1) (ra.mono l2) h2 rb)⟩⟩

/-! ### enumerate of a tuple -/
theorem wk_enu {K : PySem.W.Frag} {M : Nat → Addr} {G : Hp} {a : Addr} {vs : List V} {xs : List D} (ha : SqT K G a vs) (ra : RpA K G vs xs) : Wk K S M G (IteT K a) (enuD xs) (.d .none) := by
  have hl : (enuD xs).length = xs.length := by unfold enuD; rw [List.length_mapIdx]
  refine ⟨fun Fr M' i H' G' μ' s' l ag st hi => ?_, fun Fr M' i H' G' μ' x H2 s' l ag st hi y => ?_, fun Fr M' H' G' μ' s' l ag st => ?_⟩
  · rw [hl] at hi
    have h1 : i < vs.length := by rw [ra.length]; exact hi
    exact ⟨vs, vs[i], s'.sub.sqt (l.sqt ha), List.getElem?_eq_getElem h1⟩
  · obtain ⟨T, u, rfl, hT, rfl, h1⟩ := y
    obtain ⟨dx, e1, r1⟩ := (ra.mono l).get' (h1 vs (s'.sub.sqt (l.sqt ha)))
    obtain ⟨s2, l2⟩ := s'.new (o := .tup [.int (i : Nat), u]) hT
    refine ⟨_, l2, s2, .tuple [.int (i : Nat), dx], ?_, .tup (.inl (.inl upd_same)) (.cons (.int _) (.cons (r1.mono l2) .nil)) (show 2 ≤ sizeLine by decide)⟩
    unfold enuD
    rw [List.getElem?_mapIdx, e1]
    rfl
  · exact ⟨vs, s'.sub.sqt (l.sqt ha), by rw [hl, ra.length]⟩
theorem enuV_some {v : Val} {zs : List D} (h : enuV v = some zs) : ∃ xs, v = .d (.tuple xs) ∧ zs = enuD xs := by
  unfold enuV at h
  split at h
  · cases h; exact ⟨_, rfl, rfl⟩
  · cases h
theorem snd_enu (g : Good X S O c C k F) {elts : List Expr} {kk : Nat} {tpos : Pos} {e : Expr} {m : E} {p pos : Pos} (hg : glB X.env.scope ("enumerate" : Str) = true) (h : PE X e (tv X.K S O (evE C F m))) (pe : plainX e = true) :
    PI X (.Tuple elts kk tpos) (.Call (.Name "enumerate" p) [e] [] pos) (tvI X.K S O (evI C F (.enu m))) := by
  have hs : starEach [e] X.env = [(false, eval e X.env)] := star_of pe
  refine (pi_enT (g.gl hg).1 (blt_of g "enumerate" (by decide)) (pa_cons h pa_nil hs) hs).wk fun σ H R q => ?_
  obtain ⟨Fr, M, G, ρ, μ, xs, v, μ', s, rr, e, q⟩ := q
  simp only [evI] at e
  obtain ⟨⟨v1, μ1⟩, e1, e⟩ := bnd e
  obtain ⟨zs, e3, e⟩ := Option.map_eq_some_iff.mp e
  cases e
  obtain ⟨xs, rfl, rfl⟩ := enuV_some e3
  refine tv_go s rr e1 fun y H1 G1 l1 s1 n1 r1 => ?_
  cases r1 with
  | d r1 =>
    cases r1 with
    | tup h1 ra z1 => exact ⟨_, _, rfl, s1.sub.sqt h1, q _ H1 G1 l1 s1 n1 (by unfold enuD; rw [List.length_mapIdx]; exact z1) trivial (wk_enu h1 ra)⟩

/-! ### a list that is being made -/
section
variable {K : PySem.W.Frag} {Fr : Hp} {M : Nat → Addr} {G H : Hp} {μ : Store} {p : Addr} {as bs : List V} {ds : List D}
theorem SS.guard (s : SS K S Fr M G H μ) (hp : H p = none) : SS K S (upd Fr p (.lst [])) M G (upd H p (.lst [])) μ := by
  have s1 := s.new' (o := .lst []) hp
  have gp := s.free hp
  refine ⟨s1.sub, s1.cell, s1.out, s1.inj, fun a u e => ?_, fun a u e => ?_, fun i ds e => ?_, s1.tab.fr⟩
  · by_cases h : a = p
    · subst h; rw [upd_same] at e ⊢; exact e
    · rw [upd_ne h] at e ⊢; exact s.frm a u e
  · by_cases h : a = p
    · subst h; exact gp
    · rw [upd_ne h] at e; exact s.frG a u e
  · obtain ⟨vs, h1, _⟩ := s.cell i ds e
    rw [upd_ne (ne_of_none h1 hp)]; exact s.frM i ds e
theorem SS.grown (s : SS K S (upd Fr p (.lst as)) M G H μ) : SS K S (upd Fr p (.lst bs)) M G (upd H p (.lst bs)) μ := by
  have gp := s.frG p _ upd_same
  have mp : ∀ (i : Nat) (ds : List D), μ[i]? = some (some ds) → M i ≠ p := fun i ds e z => by
    have := s.frM i ds e
    rw [z, upd_same] at this; cases this
  refine ⟨fun a u e => ?_, fun i ds e => ?_, s.out, s.inj, fun a u e => ?_, fun a u e => ?_, fun i ds e => ?_, s.tab.grown.but fun b o q n => by rw [upd_ne (fun z => by rw [z, s.frm p _ upd_same] at q; exact n _ (Option.some.inj q).symm)]; exact q⟩
  · rw [upd_ne (ne_of_none e gp)]; exact s.sub a u e
  · obtain ⟨vs, h1, h2, z⟩ := s.cell i ds e
    exact ⟨vs, by rw [upd_ne (mp i ds e)]; exact h1, h2, z⟩
  · by_cases h : a = p
    · subst h; rw [upd_same] at e ⊢; exact e
    · rw [upd_ne h] at e ⊢; exact s.frm a u (by rw [upd_ne h]; exact e)
  · by_cases h : a = p
    · subst h; exact gp
    · rw [upd_ne h] at e; exact s.frG a u (by rw [upd_ne h]; exact e)
  · have := s.frM i ds e
    rw [upd_ne (mp i ds e)] at this ⊢; exact this
theorem SS.unguard (s : SS K S (upd Fr p (.lst as)) M G H μ) (fp : Fr p = none) : SS K S Fr M G H μ := by
  refine ⟨s.sub, s.cell, s.out, s.inj, fun a u e => s.frm a u (by rw [upd_ne (ne_of_none e fp)]; exact e), fun a u e => s.frG a u (by rw [upd_ne (ne_of_none e fp)]; exact e), fun i ds e => ?_, s.tab.unfr fp⟩
  have := s.frM i ds e
  by_cases h : M i = p
  · rw [h]; exact fp
  · rw [upd_ne h] at this; exact this
theorem SS.held (s : SS K S (upd Fr p (.lst as)) M G H μ) : H p = some (.lst as) := s.frm p _ upd_same
theorem SS.apart (s : SS K S (upd Fr p (.lst as)) M G H μ) : G p = none ∧ ∀ (i : Nat) (ds : List D), μ[i]? = some (some ds) → M i ≠ p :=
  ⟨s.frG p _ upd_same, fun i ds e z => by
    have := s.frM i ds e
    rw [z, upd_same] at this; cases this⟩
/-- a new list becomes data -/
theorem SS.kept (s : SS K S Fr M G H μ) (hp : H p = some (.lst as)) (gp : G p = none) (fp : Fr p = none) (mp : ∀ (i : Nat) (ds : List D), μ[i]? = some (some ds) → M i ≠ p) (r : RpA K G as ds) (z : ds.length ≤ sizeLine) :
    ∃ G', Le G G' ∧ SS K S Fr M G' H μ ∧ Rp K G' (.ref p) (.list ds) := by
  have le : Le G (upd G p (.lst as)) := Le.new gp
  refine ⟨_, le, ⟨fun a u e => ?_, fun i ds e => ?_, fun i ds e => ?_, s.inj, s.frm, fun a u e => ?_, s.frM, s.tab.gl⟩, .lst (.inl (.inl upd_same)) (r.mono le) z⟩
  · by_cases h : a = p
    · subst h; rw [upd_same] at e; cases e; exact hp
    · rw [upd_ne h] at e; exact s.sub a u e
  · obtain ⟨vs, h1, h2, z⟩ := s.cell i ds e
    exact ⟨vs, h1, h2.mono le, z⟩
  · rw [upd_ne (mp i ds e)]; exact s.out i ds e
  · rw [upd_ne (ne_of_none e fp)]; exact s.frG a u e
end
def toL (r : Option (Val × Store)) : Option (List D × Store) := r.bind fun (v, μ1) => match v with
  | .d (.list xs) => some (xs, μ1)
  | _ => none
theorem toL_some {r : Option (Val × Store)} {i : List D} {μ : Store} (h : toL r = some (i, μ)) : r = some (.d (.list i), μ) := by
  obtain ⟨⟨v, μ1⟩, e, h2⟩ := bnd h
  rw [e]
  dsimp only at h2
  split at h2
  · cases h2; rfl
  · cases h2
/-- a reading that makes a new list -/
def tvN (K : PySem.W.Frag) (S : ST) (O : OF) (f : Rho → Store → Option (Val × Store)) : TE := fun σ H Q => ∃ (Fr : Hp) (M : Nat → Addr) (G : Hp) (ρ : Rho) (μ : Store) (ds : List D) (μ' : Store), SS K S Fr M G H μ ∧ RR K S O M G ρ σ ∧ f ρ μ = some (.d (.list ds), μ') ∧
  ∀ p vs H' G', Le G G' → SS K S Fr M G' H' μ' → μ'.length = μ.length → H' p = some (.lst vs) → G' p = none → Fr p = none → (∀ (i : Nat) (ds : List D), μ'[i]? = some (some ds) → M i ≠ p) → RpA K G' vs ds → ds.length ≤ sizeLine → Q (.ref p) H'
theorem tvN_tv {K : PySem.W.Frag} {f : Rho → Store → Option (Val × Store)} (hf : ∀ ρ μ r μ', f ρ μ = some (r, μ') → ∃ ds, r = .d (.list ds)) {σ : L2.St} {H : Hp} {Q : VK} (q : tv K S O f σ H Q) : tvN K S O f σ H Q := by
  obtain ⟨Fr, M, G, ρ, μ, r, μ', s, rr, e, q⟩ := q
  obtain ⟨ds, rfl⟩ := hf _ _ _ _ e
  refine ⟨Fr, M, G, ρ, μ, ds, μ', s, rr, e, fun p vs H1 G1 l1 s1 n1 hp gp fp mp r1 z => ?_⟩
  obtain ⟨G2, l2, s2, r2⟩ := s1.kept hp gp fp mp r1 z
  exact q _ H1 G2 (l1.trans l2) s2 n1 (.d r2)
theorem newL_some {r : Option (Val × Store)} {ds : List D} {μ : Store} (e : newL r = some (.d (.list ds), μ)) : r = some (.d (.list ds), μ) := by
  unfold newL at e
  split at e
  · rw [← e]
  · cases e
theorem callM_list {f : Nat} {es : Es} : ∀ (ρ : Rho) (μ : Store) (r : Val) (μ' : Store), evE C F (.callM f es) ρ μ = some (r, μ') → ∃ ds, r = .d (.list ds) := by
  intro ρ μ r μ' e
  simp only [evE] at e
  obtain ⟨⟨ws, μ1⟩, e1, e⟩ := bnd e
  unfold newL at e
  split at e
  · cases e; exact ⟨_, rfl⟩
  · cases e
theorem snd_callM (g : Good X S O c C k F) {ls : List Expr} {es : Es} {f : Nat} {x : Str} {p pos : Pos} (hg : glB X.env.scope x = true) (hf : c.fns[f]? = some x) (ha : PA X ls (tvV X.K S O (evVs C F es))) (pl : ∀ e ∈ ls, plainX e = true) (hl : es.len = ls.length) :
    PE X (.Call (.Name x p) ls [] pos) (tvN X.K S O (evE C F (.callM f es))) := by
  obtain ⟨h1, h2⟩ := g.gl hg
  refine ⟨fun pins s σ H Q I h => ?_⟩
  obtain ⟨Fr, M, G, ρ, μ, ds, μ', ss, rr, e, q⟩ := h
  simp only [evE] at e
  obtain ⟨⟨ws, μ1⟩, e1, e⟩ := bnd e
  have e := newL_some e
  obtain ⟨fa, hm, hk, run⟩ := g.calls.2.1 f x ws μ1 ds μ' hf e
  have fin : ∀ (us : List Value) (vs : List V) (s1 : Shared) (H1 G1 : Hp), Inv X pins σ H1 s1 → Vals vs us → Le G G1 → SS X.K S Fr M G1 H1 μ1 → μ1.length = μ.length → RVs X.K S O M G1 vs ws →
      wpAny (model X.prog X.w) X.A (call (.ref fa) us) (EP X pins σ Q) X.xe s1 := fun us vs s1 H1 G1 I1 rv l1 s1' n1 r1 => by
    have rn := run X.A X.stack s1 H1 us vs Q Fr M G1 g.room g.grd I1.env0 rv s1' (r1.out (g.calls.args e)) fun p zs H2 G2 l2 s2 n2 hp gp fp mp r2 z => q p zs H2 G2 (l1.trans l2) s2 (n2.trans n1) hp gp fp mp r2 z
    refine wpAny_call (codeAny_mono rn fun res s' hq => ?_)
    cases res with
    | error er => exact False.elim hq
    | ok fl =>
      cases fl with
      | ret u => exact I1.after hq
      | next => exact False.elim hq
      | brk => exact False.elim hq
      | cont => exact False.elim hq
  refine wpAny_Call_Name_kw (ld_glob I h1 hm ?_ h2)
  cases ls with
  | nil =>
    cases es with
    | cons m es => simp [Es.len] at hl
    | nil =>
      simp only [evVs] at e1
      cases e1
      exact PySem.W.callWith_K0 I.kIn hk (fin [] [] s H G I .nil (Le.rfl' _) ss rfl .nil)
  | cons a ls =>
    have hs : starEach (a :: ls) X.env = (false, eval a X.env) :: starEach ls X.env := star_of (pl a List.mem_cons_self)
    refine PySem.W.callWith_K (h₀ := X.base) I.ok.mod.kin hk (thn (ha.run pos pins s σ H _ I ⟨Fr, M, G, ρ, μ, ws, μ1, ss, rr, e1, fun vs H' G' a b c d => (⟨G', a, b, c, d⟩ : ∃ G', Le G G' ∧ SS X.K S Fr M G' H' μ1 ∧ μ1.length = μ.length ∧ RVs X.K S O M G' vs ws)⟩) fun us s1 hq => ?_) hs (star_any fun e he => pl e (List.mem_cons_of_mem _ he))
    obtain ⟨vs, H1, I1, rv, G1, l1, s1', n1, r1⟩ := hq
    exact ⟨I1.kIn, fin us vs s1 H1 G1 I1 rv l1 s1' n1 r1⟩
theorem ixofD_some {x y z : D} (h : ixofD x y = some z) : ∃ ds j, x = .list ds ∧ shp (.list ds) = true ∧ shp y = true ∧ z = .int (j : Nat) ∧ ∃ u, ds[j]? = some u ∧ PyData.eqv u y = true ∧ ∀ (m : Nat) (z' : D), m < j → ds[m]? = some z' → PyData.eqv z' y = false := by
  cases x with
  | list ds =>
    simp only [ixofD] at h
    split at h
    · rename_i hs
      obtain ⟨j, h1, rfl⟩ := Option.map_eq_some_iff.mp h
      obtain ⟨hj, h2, h3⟩ := List.findIdx?_eq_some_iff_getElem.mp h1
      refine ⟨ds, j, rfl, hs.1, hs.2, rfl, ds[j], List.getElem?_eq_getElem hj, h2, fun m z' hm hz => ?_⟩
      have hlt : m < ds.length := by omega
      rw [List.getElem?_eq_getElem hlt] at hz
      cases hz
      have := h3 m hm
      simpa using this
    · cases h
  | _ => simp [ixofD] at h
theorem snd_ixof (g : Good X S O c C k F) {x : Str} {xp : Pos} {v : Expr} {ma m : E} {ap pos : Pos} (hl : (ap.endLine == pos.line) = true) (ha : PE X (.Name x xp) (tv X.K S O (evE C F ma))) (h : PE X v (tv X.K S O (evE C F m))) (pv : plainX v = true) :
    PE X (.Call (.Attribute (.Name x xp) "index" ap) [v] [] pos) (tv X.K S O (evE C F (.ixof ma m))) := by
  have hs : starEach [v] X.env = (false, eval v X.env) :: starEach [] X.env := star_of pv
  have p1 := pe_bm (apos := ap) (cpos := pos) PySem.F.plainAttrs_list PySem.F.slot_list_index PySem.F.type_list_index (mt_indexD g.hu) ha (pa_cons h pa_nil hs) rfl (by rw [hs]; rfl) hl hs rfl
  refine p1.wk fun σ H Q q => ?_
  obtain ⟨Fr, M, G, ρ, μ, r, μ', ss, rr, e, q⟩ := q
  simp only [evE] at e
  obtain ⟨⟨w, μ1⟩, e1, e⟩ := bnd e
  obtain ⟨x0, e0, e⟩ := bnd e
  obtain ⟨⟨u, μ2⟩, e2, e⟩ := bnd e
  obtain ⟨d1, d2, z, g1, g2, g3, rfl, rfl⟩ := rd2_some e
  obtain ⟨ds, j, rfl, hs1, hs2, rfl, z0, hz0, hz1, hz2⟩ := ixofD_some g3
  have hx0 : ∃ es, x0 = .list es := by
    cases w with
    | d x =>
      simp only [deref, Option.some.injEq] at e0 g1
      exact ⟨ds, by rw [← e0, g1]⟩
    | p i =>
      unfold deref at e0
      simp only at e0
      split at e0
      · cases e0; exact ⟨_, rfl⟩
      · cases e0
    | c _ _ => cases e0
    | o _ _ => cases e0
  obtain ⟨es, rfl⟩ := hx0
  refine tv_go ss rr e1 fun y H1 G1 l1 s1 n1 r1 => ?_
  have p0 := s1.rd r1 e0
  obtain ⟨a, rfl, hsq⟩ : ∃ a, y = .ref a ∧ ∃ vs, SqL X.K H1 a vs := by
    cases p0 with
    | lst p0 _ _ => exact ⟨_, rfl, _, p0.sql⟩
  refine ⟨.inl ⟨rfl, hsq⟩, tv_go s1 (rr.mono l1) e2 fun y2 H2 G2 l2 s2 n2 r2 => ?_⟩
  have p1 := s2.rd (r1.mono l2) g1
  have p2 := s2.rd r2 g2
  exact ⟨a, y2, d2, ds, j, z0, rfl, rfl, shp_dp hs1 p1, shp_dp hs2 p2, hs1, hs2, hz0, hz1, hz2, q _ H2 G2 (l1.trans l2) s2 (n2.trans n1) (.d (.int _))⟩
theorem rpA_rg {K : PySem.W.Frag} {H : Hp} (a b : Int) : RpA K H (rgV a b) (rngD a b) := by
  unfold rgV rngD
  induction List.range (b - a).toNat with
  | nil => exact .nil
  | cons i r ih => exact .cons (.int _) ih
theorem rgOk_of {a b : Int} (h : rngOk a b = true) : RgOk a b ∧ (rngD a b).length ≤ sizeLine := by
  simp only [rngOk, Bool.and_eq_true, decide_eq_true_eq] at h
  obtain ⟨⟨⟨⟨h1, h2⟩, h3⟩, h4⟩, h5⟩ := h
  have e : (rngD a b).length = (b - a).toNat := by unfold rngD; rw [List.length_map, List.length_range]
  exact ⟨⟨h1, h2, h3, h4, h5⟩, by rw [e]; exact h5⟩
theorem new_rgL (g : Good X S O c C k F) {l : Expr} {m : E} {p p2 pos pos2 : Pos} (hg : glB X.env.scope ("list" : Str) = true) (hg2 : glB X.env.scope ("range" : Str) = true) (h : PE X l (tv X.K S O (evE C F m))) (pl : plainX l = true) :
    PE X (.Call (.Name "list" p) [.Call (.Name "range" p2) [l] [] pos2] [] pos) (tvN X.K S O (evE C F (.rgL m))) := by
  obtain ⟨h1, _⟩ := g.gl hg
  obtain ⟨h2, _⟩ := g.gl hg2
  have hs : starEach [l] X.env = (false, eval l X.env) :: starEach [] X.env := star_of pl
  refine (pe_listRg g.calm h1 (blt_of g "list" (by decide)) (prg_1 (pos := pos2) h2 (blt_of g "range" (by decide)) h hs)).wk fun σ H Q q => ?_
  obtain ⟨Fr, M, G, ρ, μ, ds, μ', ss, rr, e, q⟩ := q
  simp only [evE] at e
  obtain ⟨⟨n, μ1⟩, e1, e⟩ := bnd e
  dsimp only at e
  split at e
  · rename_i hn
    cases e
    obtain ⟨ok, z⟩ := rgOk_of hn
    refine tv_go ss rr (toI_some e1) fun x H1 G1 l1 s1 n1 r1 => ?_
    cases r1 with
    | d r1 =>
      cases r1
      refine ⟨n, rfl, ok, fun t ht => q t _ _ G1 l1 (s1.new' ht) n1 upd_same (s1.free ht) (s1.frFree ht) (fun i es hi => ?_) (rpA_rg 0 n) z⟩
      obtain ⟨us, hc, _⟩ := s1.cell i es hi
      exact ne_of_none hc ht
  · cases e
theorem rgL_list {m : E} : ∀ (ρ : Rho) (μ : Store) (r : Val) (μ' : Store), evE C F (.rgL m) ρ μ = some (r, μ') → ∃ ds, r = .d (.list ds) := by
  intro ρ μ r μ' e
  simp only [evE] at e
  obtain ⟨⟨n, μ1⟩, e1, e⟩ := bnd e
  dsimp only at e
  split at e
  · cases e; exact ⟨_, rfl⟩
  · cases e
theorem RpA.erase {K : PySem.W.Frag} {H : Hp} : ∀ {vs : List V} {xs : List D} (k : Nat), RpA K H vs xs → RpA K H (vs.eraseIdx k) (xs.eraseIdx k)
  | _, _, _, .nil => .nil
  | _, _, 0, .cons h t => t
  | _, _, k + 1, .cons h t => .cons h (RpA.erase k t)
theorem popV_some {μ μ' : Store} {v r : Val} {k : Int} (h : popV μ v k = some (r, μ')) : ∃ i xs y, v = .p i ∧ μ[i]? = some (some xs) ∧ 0 ≤ k ∧ k < 1000000 ∧ xs[k.toNat]? = some y ∧ r = .d y ∧ μ' = μ.set i (some (xs.eraseIdx k.toNat)) := by
  unfold popV at h
  split at h
  · rename_i i
    split at h
    · rename_i xs hx
      split at h
      · rename_i hk
        obtain ⟨y, hy, e⟩ := Option.map_eq_some_iff.mp h
        cases e
        exact ⟨i, xs, y, rfl, hx, hk.1, hk.2, hy, rfl, rfl⟩
      · cases h
    · cases h
  · cases h
theorem snd_pop (g : Good X S O c C k F) {x : Str} {xp : Pos} {v : Expr} {ma m : E} {ap pos : Pos} (hl : (ap.endLine == pos.line) = true) (ha : PE X (.Name x xp) (tv X.K S O (evE C F ma))) (h : PE X v (tv X.K S O (evE C F m))) (pv : plainX v = true) :
    PE X (.Call (.Attribute (.Name x xp) "pop" ap) [v] [] pos) (tv X.K S O (evE C F (.pop ma m))) := by
  have hs : starEach [v] X.env = (false, eval v X.env) :: starEach [] X.env := star_of pv
  have p1 := pe_bm (apos := ap) (cpos := pos) PySem.F.plainAttrs_list PySem.F.slot_list_pop PySem.F.type_list_pop mt_popAt ha (pa_cons h pa_nil hs) rfl (by rw [hs]; rfl) hl hs rfl
  refine p1.wk fun σ H Q q => ?_
  obtain ⟨Fr, M, G, ρ, μ, r, μ', ss, rr, e, q⟩ := q
  simp only [evE] at e
  obtain ⟨⟨w, μ1⟩, e1, e⟩ := bnd e
  obtain ⟨x0, e0, e⟩ := bnd e
  obtain ⟨⟨j, μ2⟩, e2, e⟩ := bnd e
  obtain ⟨i, xs, y, rfl, hi, h0, h1, hy, rfl, rfl⟩ := popV_some e
  refine tv_go ss rr e1 fun z H1 G1 l1 s1 n1 r1 => ?_
  cases r1 with
  | p i =>
    refine ⟨?_, tv_go s1 (rr.mono l1) (toI_some e2) fun z2 H2 G2 l2 s2 n2 r2 => ?_⟩
    · have p0 := s1.rd (O := O) (.p i) e0
      cases x0 with
      | list ds =>
        cases p0 with
        | lst p0 _ _ => exact .inl ⟨rfl, _, p0.sql⟩
      | _ => unfold deref at e0; simp only at e0; split at e0 <;> cases e0
    · cases r2 with
      | d r2 =>
        cases r2
        obtain ⟨us, hc, ra, hz⟩ := s2.cell i xs hi
        obtain ⟨u, hu, ru⟩ := ra.get hy
        have lt := (List.getElem?_eq_some_iff.mp hu).1
        have sq : seqIndex? j us.length = some j.toNat := by
          have e : j = ((j.toNat : Nat) : Int) := by omega
          rw [e]
          unfold seqIndex?
          simp
          omega
        refine ⟨M i, us, j, j.toNat, u, rfl, rfl, hc, by omega, by omega, sq, hu, ?_⟩
        exact q _ _ G2 (l1.trans l2) (s2.put hi (ra.erase j.toNat) (Nat.le_trans (List.length_eraseIdx_le _ _) hz)) (by rw [List.length_set, n2, n1]) (.d ru)
theorem snd_rgL2 (g : Good X S O c C k F) {l l2 : Expr} {m m2 : E} {p p2 pos pos2 : Pos} (hg : glB X.env.scope ("list" : Str) = true) (hg2 : glB X.env.scope ("range" : Str) = true) (h : PE X l (tv X.K S O (evE C F m))) (pl : plainX l = true) (h' : PE X l2 (tv X.K S O (evE C F m2))) (pl' : plainX l2 = true) :
    PE X (.Call (.Name "list" p) [.Call (.Name "range" p2) [l, l2] [] pos2] [] pos) (tvN X.K S O (evE C F (.rgL2 m m2))) := by
  obtain ⟨h1, _⟩ := g.gl hg
  obtain ⟨h2, _⟩ := g.gl hg2
  have hs : starEach [l, l2] X.env = (false, eval l X.env) :: starEach [l2] X.env := star_of pl
  have hs2 : starEach [l2] X.env = (false, eval l2 X.env) :: starEach [] X.env := star_of pl'
  refine (pe_listRg g.calm h1 (blt_of g "list" (by decide)) (prg_2 (pos := pos2) h2 (blt_of g "range" (by decide)) h h' hs hs2 (by rw [hs2]; rfl))).wk fun σ H Q q => ?_
  obtain ⟨Fr, M, G, ρ, μ, ds, μ', ss, rr, e, q⟩ := q
  simp only [evE] at e
  obtain ⟨⟨a, μ1⟩, e1, e⟩ := bnd e
  obtain ⟨⟨b, μ2⟩, e2, e⟩ := bnd e
  dsimp only at e
  split at e
  · rename_i hn
    cases e
    obtain ⟨ok, z⟩ := rgOk_of hn
    refine tv_go ss rr (toI_some e1) fun x H1 G1 l1 s1 n1 r1 => ?_
    cases r1 with
    | d r1 =>
      cases r1
      refine tv_go s1 (rr.mono l1) (toI_some e2) fun x2 H2 G2 l2 s2 n2 r2 => ?_
      cases r2 with
      | d r2 =>
        cases r2
        refine ⟨a, b, rfl, rfl, ok, fun t ht => q t _ _ G2 (l1.trans l2) (s2.new' ht) (n2.trans n1) upd_same (s2.free ht) (s2.frFree ht) (fun i es hi => ?_) (rpA_rg a b) z⟩
        obtain ⟨us, hc, _⟩ := s2.cell i es hi
        exact ne_of_none hc ht
  · cases e
theorem rgL2_list {m m2 : E} : ∀ (ρ : Rho) (μ : Store) (r : Val) (μ' : Store), evE C F (.rgL2 m m2) ρ μ = some (r, μ') → ∃ ds, r = .d (.list ds) := by
  intro ρ μ r μ' e
  simp only [evE] at e
  obtain ⟨⟨n, μ1⟩, e1, e⟩ := bnd e
  obtain ⟨⟨n2, μ2⟩, e2, e⟩ := bnd e
  dsimp only at e
  split at e
  · cases e; exact ⟨_, rfl⟩
  · cases e
theorem snd_rgT (g : Good X S O c C k F) {l : Expr} {m : E} {p p2 pos pos2 : Pos} (hg : glB X.env.scope ("tuple" : Str) = true) (hg2 : glB X.env.scope ("range" : Str) = true) (h : PE X l (tv X.K S O (evE C F m))) (pl : plainX l = true) :
    PE X (.Call (.Name "tuple" p) [.Call (.Name "range" p2) [l] [] pos2] [] pos) (tv X.K S O (evE C F (.rgT m))) := by
  obtain ⟨h1, _⟩ := g.gl hg
  obtain ⟨h2, _⟩ := g.gl hg2
  have hs : starEach [l] X.env = (false, eval l X.env) :: starEach [] X.env := star_of pl
  refine (pe_tupRg g.calm h1 (blt_of g "tuple" (by decide)) (prg_1 (pos := pos2) h2 (blt_of g "range" (by decide)) h hs)).wk fun σ H Q q => ?_
  obtain ⟨Fr, M, G, ρ, μ, r, μ', ss, rr, e, q⟩ := q
  simp only [evE] at e
  obtain ⟨⟨n, μ1⟩, e1, e⟩ := bnd e
  dsimp only at e
  split at e
  · rename_i hn
    cases e
    obtain ⟨ok, z⟩ := rgOk_of hn
    refine tv_go ss rr (toI_some e1) fun x H1 G1 l1 s1 n1 r1 => ?_
    cases r1 with
    | d r1 =>
      cases r1
      refine ⟨n, rfl, ok, fun t ht => ?_⟩
      obtain ⟨G2, l2, s2, r2⟩ := s1.tup ht (rpA_rg 0 n) z
      exact q _ _ G2 (l1.trans l2) s2 n1 (.d r2)
  · cases e
/-- what a set is made of -/
def SetOk (xs : List D) (z : D) : Prop := (∃ ns, intsD xs = some ns ∧ ns.length ≤ 1000 ∧ (sortU ns).length < 64 ∧ z = .list ((sortU ns).map .int)) ∨ ∃ ts, xs = ts.map tupI ∧ okTs ts = true ∧ ts ≠ [] ∧ z = .list ((sortT ts).map tupI)
theorem ssetD_some {x z : D} (h : ssetD x = some z) : ∃ xs, (x = .list xs ∨ x = .tuple xs) ∧ SetOk xs z := by
  have main : ∀ xs, ssetL xs = some z → SetOk xs z := fun xs e => by
    unfold ssetL at e
    split at e
    · rename_i ns e1
      split at e
      · rename_i c
        cases e
        exact .inl ⟨ns, e1, c.1, c.2, rfl⟩
      · cases e
    · rename_i e1
      split at e
      · rename_i ts e2
        split at e
        · rename_i c
          cases e
          refine .inr ⟨ts, tupsD_map e2, c, fun q => ?_, rfl⟩
          have := tupsD_map e2
          subst q
          subst this
          cases e1
        · cases e
      · cases e
  cases x with
  | list xs => exact ⟨xs, .inl rfl, main xs h⟩
  | tuple xs => exact ⟨xs, .inr rfl, main xs h⟩
  | _ => cases h
theorem rpA_ints0 {K : PySem.W.Frag} {H : Hp} : ∀ ns : List Int, RpA K H (ns.map V.int) (ns.map PyData.int)
  | [] => .nil
  | n :: ns => .cons (.int n) (rpA_ints0 ns)
theorem new_sset (g : Good X S O c C k F) {l : Expr} {m : E} {p p2 pos pos2 : Pos} (hg : glB X.env.scope ("sorted" : Str) = true) (hg2 : glB X.env.scope ("set" : Str) = true) (h : PE X l (tv X.K S O (evE C F m))) (pl : plainX l = true) :
    PE X (.Call (.Name "sorted" p) [.Call (.Name "set" p2) [l] [] pos2] [] pos) (tvN X.K S O (evE C F (.sset m))) := by
  obtain ⟨h1, _⟩ := g.gl hg
  obtain ⟨h2, _⟩ := g.gl hg2
  refine (pe_ssetX (pos2 := pos2) g.calm g.room.units h1 (blt_of g "sorted" (by decide)) h2 (blt_of g "set" (by decide)) h (star_of pl)).wk fun σ H Q q => ?_
  obtain ⟨Fr, M, G, ρ, μ, ds, μ', ss, rr, e, q⟩ := q
  simp only [evE] at e
  obtain ⟨⟨v, μ1⟩, e1, e⟩ := bnd e
  obtain ⟨x, z, g1, g2, ez, rfl⟩ := rd1_some e
  obtain ⟨xs, hx, hs⟩ := ssetD_some g2
  rcases hs with ⟨ns, hn, hl, h64, rfl⟩ | ⟨ts, rfl, ok, ne, rfl⟩
  · cases ez
    refine tv_go ss rr e1 fun y H1 G1 l1 s1 n1 r1 => .inl ?_
    obtain ⟨a, ra, hq⟩ : ∃ a, y = .ref a ∧ (SqL X.K H1 a (ns.map V.int) ∨ SqT X.K H1 a (ns.map V.int)) := by
      rcases hx with rfl | rfl
      · obtain ⟨a, ws, rfl, h1, q1, z1⟩ := s1.rdL r1 g1
        have e5 := q1.ints (intsD_map hn)
        subst e5
        exact ⟨a, rfl, .inl h1.sql⟩
      · obtain ⟨a, ws, rfl, h1, q1, z1⟩ := s1.rdT r1 g1
        have e5 := q1.ints (intsD_map hn)
        subst e5
        exact ⟨a, rfl, .inr h1⟩
    subst ra
    refine ⟨a, ns, rfl, hq, hl, fun b hb => .inl ⟨b, _, _, rfl, upd_same, h64, fun us t hp hm hlen ht => ?_⟩⟩
    have eu : us = sortU ns := asc_ext hp (asc_sortU ns) fun k => by rw [hm k, mem_sortU]; simp
    subst eu
    have s2 := s1.new' (o := SetO X.w b (fun j => decide (j ∈ ns)) (sortU ns).length) hb
    refine q t _ _ G1 l1 (s2.new' ht) n1 upd_same (s2.free ht) (s2.frFree ht) (fun i es hi => ?_) (rpA_ints0 _) (by rw [List.length_map]; exact Nat.le_trans (Nat.le_of_lt h64) (by decide))
    obtain ⟨us, hc, _⟩ := s2.cell i es hi
    exact ne_of_none hc ht
  · cases ez
    obtain ⟨o1, o2, o3⟩ := okTs_of ok
    have o2 : 1 ≤ (ts.headD []).length := by
      rcases o2 with o2 | o2
      · exact absurd o2 ne
      · exact o2
    refine tv_go ss rr e1 fun y H1 G1 l1 s1 n1 r1 => .inr ?_
    obtain ⟨a, ks, ra, hq, ek, hk⟩ : ∃ (a : Addr) (ks : List (Addr × List Int)), y = .ref a ∧ (SqL X.K H1 a (ks.map fun p => V.ref p.1) ∨ SqT X.K H1 a (ks.map fun p => V.ref p.1)) ∧ ks.map (·.2) = ts ∧ ∀ p ∈ ks, SqT X.K G1 p.1 (p.2.map V.int) ∧ p.2.length ≤ sizeLine := by
      rcases hx with rfl | rfl
      · obtain ⟨a, ws, rfl, h1, q1, z1⟩ := s1.rdL r1 g1
        obtain ⟨ks, rfl, ek, hk⟩ := q1.tups
        exact ⟨a, ks, rfl, .inl h1.sql, ek, hk⟩
      · obtain ⟨a, ws, rfl, h1, q1, z1⟩ := s1.rdT r1 g1
        obtain ⟨ks, rfl, ek, hk⟩ := q1.tups
        exact ⟨a, ks, rfl, .inr h1, ek, hk⟩
    subst ra
    have inT : ∀ p ∈ ks, p.2 ∈ ts := fun p hp => by rw [← ek]; exact List.mem_map.mpr ⟨p, hp, rfl⟩
    refine ⟨a, ks, rfl, hq, fun p hp => s1.sub.sqt (hk p hp).1, by rw [← ek, List.length_map] at o1; exact o1, fun b L hb hL1 hL2 => .inr ⟨b, L, (ts.headD []).length, 1000000, rfl, upd_same, fun p hp => (s1.sub.trans (Le.new hb)).sqt (hk p (hL1 p hp)).1, o2, fun p hp => o3 _ (inT p (hL1 p hp)), fun L' t pm nd few pw ht => ?_⟩⟩
    have hL' : ∀ p ∈ L', p ∈ ks := fun p hp => hL1 p (pm.mem_iff.mp hp)
    have eu : L'.map (·.2) = sortT ts := by
      refine ascT_ext ?_ (asc_sortT ts o3) fun k => ?_
      · have nd' : L'.Pairwise fun p q => p.2 ≠ q.2 := List.pairwise_map.mp nd
        refine List.pairwise_map.mpr ((pw.and nd').imp_of_mem fun {p q} hp hq h => ?_)
        obtain ⟨h1, h2⟩ := h
        have h1 : cd p.2 ≤ cd q.2 := h1
        rcases Int.lt_or_le (cd p.2) (cd q.2) with c | c
        · exact c
        · exact absurd (cd_inj (o3 _ (inT p (hL' p hp))) (o3 _ (inT q (hL' q hq))) (by omega)) h2
      · rw [mem_sortT, ← ek]
        constructor
        · intro h
          obtain ⟨p, hp, e⟩ := List.mem_map.mp h
          exact List.mem_map.mpr ⟨p, hL' p hp, e⟩
        · intro h
          obtain ⟨p, hp, e⟩ := List.mem_map.mp h
          obtain ⟨p2, hp2, e2⟩ := List.mem_map.mp (hL2 p hp)
          exact List.mem_map.mpr ⟨p2, pm.mem_iff.mpr hp2, by rw [e2, e]⟩
    have s2 := s1.new' (o := SetTO X.prog X.w b L) hb
    have rp := RpA.of_tups (K := X.K) (H := G1) (ks := L') fun p hp => hk p (hL' p hp)
    rw [eu] at rp
    refine q t _ _ G1 l1 (s2.new' ht) n1 upd_same (s2.free ht) (s2.frFree ht) (fun i es hi => ?_) rp (by rw [List.length_map, ← eu, List.length_map]; exact Nat.le_trans (Nat.le_of_lt few) (by decide))
    obtain ⟨us, hc, _⟩ := s2.cell i es hi
    exact ne_of_none hc ht
theorem RpA.rev {K : PySem.W.Frag} {H : Hp} : ∀ {vs : List V} {xs : List D}, RpA K H vs xs → RpA K H vs.reverse xs.reverse
  | _, _, .nil => .nil
  | _, _, .cons h t => by
    rw [List.reverse_cons, List.reverse_cons]
    exact (RpA.rev t).append (.cons h .nil)
theorem snd_trv (g : Good X S O c C k F) {l : Expr} {m : E} {p p2 pos pos2 : Pos} (hg : glB X.env.scope ("tuple" : Str) = true) (hg2 : glB X.env.scope ("reversed" : Str) = true) (h : PE X l (tv X.K S O (evE C F m))) (pl : plainX l = true) :
    PE X (.Call (.Name "tuple" p) [.Call (.Name "reversed" p2) [l] [] pos2] [] pos) (tv X.K S O (evE C F (.trv m))) := by
  obtain ⟨h1, _⟩ := g.gl hg
  obtain ⟨h2, _⟩ := g.gl hg2
  refine (pe_tupRevT (pos2 := pos2) g.calm h1 (blt_of g "tuple" (by decide)) h2 (blt_of g "reversed" (by decide)) h (star_of pl)).wk fun σ H Q q => ?_
  obtain ⟨Fr, M, G, ρ, μ, r, μ', ss, rr, e, q⟩ := q
  simp only [evE] at e
  obtain ⟨⟨v, μ1⟩, e1, e⟩ := bnd e
  obtain ⟨x, z, g1, g2, rfl, rfl⟩ := rd1_some e
  obtain ⟨xs, rfl, hl, rfl⟩ : ∃ xs, x = .tuple xs ∧ xs.length ≤ sizeLine ∧ z = .tuple xs.reverse := by
    cases x with
    | tuple xs =>
      unfold trvD at g2
      dsimp only at g2
      split at g2
      · rename_i c
        cases g2
        exact ⟨xs, rfl, c, rfl⟩
      · cases g2
    | _ => cases g2
  refine tv_go ss rr e1 fun y H1 G1 l1 s1 n1 r1 => ?_
  obtain ⟨a, ws, rfl, h1, q1, z1⟩ := s1.rdT r1 g1
  refine ⟨a, ws, rfl, h1, fun t ht => ?_⟩
  obtain ⟨G2, l2, s2, r2⟩ := s1.tup ht q1.rev (by rw [List.length_reverse]; exact hl)
  exact q _ _ G2 (l1.trans l2) s2 n1 (.d r2)
theorem snd_back {l : Expr} {m : E} {k : Nat} {p1 p2 p3 pos : Pos} (h : PE X l (tv X.K S O (evE C F m))) :
    PE X (.Subscript l (.Slice none none (some (.UnaryOp .USub (.Constant (.int 1) k p1) p2)) p3) pos) (tv X.K S O (evE C F (.trv m))) := by
  refine (pe_backT h).wk fun σ H Q q => ?_
  obtain ⟨Fr, M, G, ρ, μ, r, μ', ss, rr, e, q⟩ := q
  simp only [evE] at e
  obtain ⟨⟨v, μ1⟩, e1, e⟩ := bnd e
  obtain ⟨x, z, g1, g2, rfl, rfl⟩ := rd1_some e
  obtain ⟨xs, rfl, hl, rfl⟩ : ∃ xs, x = .tuple xs ∧ xs.length ≤ sizeLine ∧ z = .tuple xs.reverse := by
    cases x with
    | tuple xs =>
      unfold trvD at g2
      dsimp only at g2
      split at g2
      · rename_i c
        cases g2
        exact ⟨xs, rfl, c, rfl⟩
      · cases g2
    | _ => cases g2
  refine tv_go ss rr e1 fun y H1 G1 l1 s1 n1 r1 => ?_
  obtain ⟨a, ws, rfl, h1, q1, z1⟩ := s1.rdT r1 g1
  refine ⟨a, ws, rfl, h1, fun t ht => ?_⟩
  obtain ⟨G2, l2, s2, r2⟩ := s1.tup ht q1.rev (by rw [List.length_reverse]; exact hl)
  exact q _ _ G2 (l1.trans l2) s2 n1 (.d r2)
theorem snd_lback {l : Expr} {m : E} {k : Nat} {p1 p2 p3 pos : Pos} (h : PE X l (tv X.K S O (evE C F m))) :
    PE X (.Subscript l (.Slice none none (some (.UnaryOp .USub (.Constant (.int 1) k p1) p2)) p3) pos) (tv X.K S O (evE C F (.lrv m))) := by
  refine (pe_revL h).wk fun σ H Q q => ?_
  obtain ⟨Fr, M, G, ρ, μ, r, μ', ss, rr, e, q⟩ := q
  simp only [evE] at e
  obtain ⟨⟨v, μ1⟩, e1, e⟩ := bnd e
  obtain ⟨x, z, g1, g2, rfl, rfl⟩ := rd1_some e
  obtain ⟨xs, rfl, hl, rfl⟩ : ∃ xs, x = .list xs ∧ xs.length ≤ sizeLine ∧ z = .list xs.reverse := by
    cases x with
    | list xs =>
      unfold lrvD at g2
      dsimp only at g2
      split at g2
      · rename_i c
        cases g2
        exact ⟨xs, rfl, c, rfl⟩
      · cases g2
    | _ => cases g2
  refine tv_go ss rr e1 fun y H1 G1 l1 s1 n1 r1 => ?_
  obtain ⟨a, ws, rfl, h1, q1, z1⟩ := s1.rdL r1 g1
  refine ⟨a, ws, rfl, h1.sql, fun t ht => ?_⟩
  obtain ⟨G2, l2, s2, r2⟩ := s1.lst ht q1.rev (by rw [List.length_reverse]; exact hl)
  exact q _ _ G2 (l1.trans l2) s2 n1 (.d r2)
theorem lsetD_some {x z : D} (h : lsetD x = some z) : ∃ xs ns, x = .list xs ∧ intsD xs = some ns ∧ ns.length ≤ 1000 ∧ z = .int (sortU ns).length := by
  cases x with
  | list xs =>
    obtain ⟨ns, e1, e2⟩ := Option.bind_eq_some_iff.mp h
    split at e2
    · rename_i c
      cases e2
      exact ⟨xs, ns, rfl, e1, c, rfl⟩
    · cases e2
  | _ => cases h
theorem snd_lset (g : Good X S O c C k F) {l : Expr} {m : E} {p p2 pos pos2 : Pos} (hg : glB X.env.scope ("len" : Str) = true) (hg2 : glB X.env.scope ("set" : Str) = true) (h : PE X l (tv X.K S O (evE C F m))) (pl : plainX l = true) :
    PE X (.Call (.Name "len" p) [.Call (.Name "set" p2) [l] [] pos2] [] pos) (tv X.K S O (evE C F (.lset m))) := by
  obtain ⟨h1, _⟩ := g.gl hg
  obtain ⟨h2, _⟩ := g.gl hg2
  refine (pe_lenSetI (q := pos2) g.calm h1 (blt_of g "len" (by decide)) h2 (blt_of g "set" (by decide)) h (star_of pl)).wk fun σ H Q q => ?_
  obtain ⟨Fr, M, G, ρ, μ, r, μ', ss, rr, e, q⟩ := q
  simp only [evE] at e
  obtain ⟨⟨v, μ1⟩, e1, e⟩ := bnd e
  obtain ⟨x, z, g1, g2, rfl, rfl⟩ := rd1_some e
  obtain ⟨xs, ns, rfl, hn, hl, rfl⟩ := lsetD_some g2
  refine tv_go ss rr e1 fun y H1 G1 l1 s1 n1 r1 => ?_
  obtain ⟨a, ws, rfl, h1, q1, z1⟩ := s1.rdL r1 g1
  have e5 := q1.ints (intsD_map hn)
  subst e5
  exact ⟨a, ns, rfl, h1.sql, hl, q _ H1 G1 l1 s1 n1 (.d (.int _))⟩
theorem mm_go {t : Bool} {ma md : E} {σ : L2.St} {H : Hp} {Q : VK} (q : tv X.K S O (evE C F (.mm2 t ma md)) σ H Q) :
    tv X.K S O (evE C F ma) σ H fun x H1 => tv X.K S O (evE C F md) σ H1 fun y H2 => ∃ i j, [x, y] = [.int i, .int j] ∧ Q (.int (if t = true then (if j > i then j else i) else if j < i then j else i)) H2 := by
  obtain ⟨Fr, M, G, ρ, μ, r, μ', ss, rr, e, q⟩ := q
  simp only [evE] at e
  obtain ⟨⟨v, μ1⟩, e1, e⟩ := bnd e
  obtain ⟨⟨w, μ2⟩, e2, e⟩ := bnd e
  obtain ⟨x, y, z, g1, g2, g3, rfl, rfl⟩ := rd2_some e
  refine tv_go ss rr e1 fun u H1 G1 l1 s1 n1 r1 => tv_go s1 (rr.mono l1) e2 fun u' H2 G2 l2 s2 n2 r2 => ?_
  obtain ⟨i, j, rfl, rfl, rfl⟩ : ∃ i j, x = .int i ∧ y = .int j ∧ z = .int (if t = true then (if j > i then j else i) else if j < i then j else i) := by
    cases x with
    | int i =>
      cases y with
      | int j => cases g3; exact ⟨i, j, rfl, rfl, rfl⟩
      | _ => cases g3
    | _ => cases g3
  have a1 := s2.rd (O := O) (r1.mono l2) g1
  have a2 := s2.rd (O := O) r2 g2
  cases a1
  cases a2
  exact ⟨i, j, rfl, q _ H2 G2 (l1.trans l2) s2 (by rw [n2, n1]) (.d (.int _))⟩
theorem snd_mm2 (g : Good X S O c C k F) {a d : Expr} {ma md : E} {t : Bool} {p pos : Pos} (hg : glB X.env.scope (if t = true then ("max" : Str) else ("min" : Str)) = true) (ha : PE X a (tv X.K S O (evE C F ma))) (hd : PE X d (tv X.K S O (evE C F md))) (pa : plainX a = true) (pd : plainX d = true) :
    PE X (.Call (.Name (if t = true then ("max" : Str) else ("min" : Str)) p) [a, d] [] pos) (tv X.K S O (evE C F (.mm2 t ma md))) := by
  obtain ⟨h1, h2⟩ := g.gl hg
  have hs : starEach [a, d] X.env = (false, eval a X.env) :: starEach [d] X.env := star_of pa
  have hs2 : starEach [d] X.env = (false, eval d X.env) :: starEach [] X.env := star_of pd
  cases t with
  | true =>
    refine (pe_callB (call_max2 g.calm) h1 (blt_of g "max" (by decide)) (by decide +kernel) (pa_cons ha (pa_cons hd pa_nil hs2) hs) (by decide) h2 hs (by rw [hs2]; rfl)).wk fun σ H Q q => ?_
    obtain ⟨Fr, M, G, ρ, μ, r, μ', ss, rr, e, q⟩ := mm_go q
    exact ⟨Fr, M, G, ρ, μ, r, μ', ss, rr, e, q⟩
  | false =>
    refine (pe_callB (call_min2 g.calm) h1 (blt_of g "min" (by decide)) (by decide +kernel) (pa_cons ha (pa_cons hd pa_nil hs2) hs) (by decide) h2 hs (by rw [hs2]; rfl)).wk fun σ H Q q => ?_
    obtain ⟨Fr, M, G, ρ, μ, r, μ', ss, rr, e, q⟩ := mm_go q
    exact ⟨Fr, M, G, ρ, μ, r, μ', ss, rr, e, q⟩
/-- sorted(xs) -/
theorem srtD_some {x z : D} (h : srtD x = some z) : ∃ xs, x = .list xs ∧ ((∃ ns, intsD xs = some ns ∧ z = .list ((sortI ns).map .int)) ∨ ∃ ts, xs = ts.map tupI ∧ okTs ts = true ∧ ts ≠ [] ∧ z = .list ((sortP ts).map tupI)) := by
  cases x with
  | list xs =>
    refine ⟨xs, rfl, ?_⟩
    unfold srtD at h
    dsimp only at h
    split at h
    · rename_i ns e1
      cases h
      exact .inl ⟨ns, e1, rfl⟩
    · rename_i e1
      split at h
      · rename_i ts e2
        split at h
        · rename_i c
          cases h
          refine .inr ⟨ts, tupsD_map e2, c, fun q => ?_, rfl⟩
          have := tupsD_map e2
          subst q
          subst this
          cases e1
        · cases h
      · cases h
  | _ => cases h
theorem new_srt (g : Good X S O c C k F) {l : Expr} {m : E} {p pos : Pos} (hg : glB X.env.scope ("sorted" : Str) = true) (h : PE X l (tv X.K S O (evE C F m))) (pl : plainX l = true) :
    PE X (.Call (.Name "sorted" p) [l] [] pos) (tvN X.K S O (evE C F (.srt m))) := by
  obtain ⟨h1, _⟩ := g.gl hg
  refine (pe_srtL h1 (blt_of g "sorted" (by decide)) h (star_of pl)).wk fun σ H Q q => ?_
  obtain ⟨Fr, M, G, ρ, μ, ds, μ', ss, rr, e, q⟩ := q
  simp only [evE] at e
  obtain ⟨⟨v, μ1⟩, e1, e⟩ := bnd e
  obtain ⟨x, z, g1, g2, ez, rfl⟩ := rd1_some e
  obtain ⟨xs, rfl, hs⟩ := srtD_some g2
  rcases hs with ⟨ns, hn, rfl⟩ | ⟨ts, rfl, ok, ne, rfl⟩
  · cases ez
    refine tv_go ss rr e1 fun y H1 G1 l1 s1 n1 r1 => .inl ?_
    obtain ⟨a, ws, rfl, h1, q1, z1⟩ := s1.rdL r1 g1
    have e5 := q1.ints (intsD_map hn)
    subst e5
    refine ⟨a, ns, rfl, h1.sql, fun us t hp hm ht => ?_⟩
    have eu : us = sortI ns := perm_ext hm (le_sortI ns) (fun x _ y _ h1 h2 => by omega) (hp.trans (perm_sortI ns).symm)
    subst eu
    refine q t _ _ G1 l1 (s1.new' ht) n1 upd_same (s1.free ht) (s1.frFree ht) (fun i es hi => ?_) (rpA_ints0 _) (by
      rw [List.length_map, (perm_sortI ns).length_eq]
      rw [intsD_map hn, List.length_map] at z1
      exact z1)
    obtain ⟨us, hc, _⟩ := s1.cell i es hi
    exact ne_of_none hc ht
  · cases ez
    obtain ⟨o1, o2, o3⟩ := okTs_of ok
    have o2 : 1 ≤ (ts.headD []).length := by
      rcases o2 with o2 | o2
      · exact absurd o2 ne
      · exact o2
    refine tv_go ss rr e1 fun y H1 G1 l1 s1 n1 r1 => .inr ⟨(ts.headD []).length, o2, ?_⟩
    obtain ⟨a, ws, rfl, h1, q1, z1⟩ := s1.rdL r1 g1
    obtain ⟨ks, rfl, ek, hk⟩ := q1.tups
    have inT : ∀ p ∈ ks, p.2 ∈ ts := fun p hp => by rw [← ek]; exact List.mem_map.mpr ⟨p, hp, rfl⟩
    refine ⟨a, _, rfl, h1.sql, by rw [List.length_map]; rw [← ek, List.length_map] at o1; exact o1, fun x hx => ?_, fun ys t hp hm ht => ?_⟩
    · obtain ⟨p, hp, rfl⟩ := List.mem_map.mp hx
      exact ⟨p.2, ⟨p.1, rfl, s1.sub.sqt (hk p hp).1⟩, o3 _ (inT p hp)⟩
    · obtain ⟨ks', pk, rfl⟩ := perm_map_inv hp ks rfl
      have hks : ∀ p ∈ ks', p ∈ ks := fun p hp => pk.mem_iff.mp hp
      have pw : LeT (ks'.map (·.2)) := by
        refine List.pairwise_map.mpr ((List.pairwise_map.mp hm).imp_of_mem fun {p q} hp hq h => ?_)
        exact h p.2 q.2 ⟨p.1, rfl, s1.sub.sqt (hk p (hks p hp)).1⟩ ⟨q.1, rfl, s1.sub.sqt (hk q (hks q hq)).1⟩
      have eu : ks'.map (·.2) = sortP ts := by
        refine perm_ext pw (le_sortP ts o3) (fun x hx y hy h1 h2 => ?_) ?_
        · obtain ⟨p, hp, rfl⟩ := List.mem_map.mp hx
          obtain ⟨q, hq, rfl⟩ := List.mem_map.mp hy
          exact cd_inj (o3 _ (inT p (hks p hp))) (o3 _ (inT q (hks q hq))) (by omega)
        · have := pk.map (fun p : Addr × List Int => p.2)
          rw [ek] at this
          exact this.trans (perm_sortP ts).symm
      have rp := RpA.of_tups (K := X.K) (H := G1) (ks := ks') fun p hp => hk p (hks p hp)
      rw [eu] at rp
      refine q t _ _ G1 l1 (s1.new' ht) n1 upd_same (s1.free ht) (s1.frFree ht) (fun i es hi => ?_) rp (by
        rw [List.length_map, (perm_sortP ts).length_eq]
        exact Nat.le_trans (Nat.le_of_lt o1) (by decide))
      obtain ⟨us, hc, _⟩ := s1.cell i es hi
      exact ne_of_none hc ht
theorem srt_list {m : E} : ∀ (ρ : Rho) (μ : Store) (r : Val) (μ' : Store), evE C F (.srt m) ρ μ = some (r, μ') → ∃ ds, r = .d (.list ds) := by
  intro ρ μ r μ' e
  simp only [evE] at e
  obtain ⟨⟨v, μ1⟩, e1, e⟩ := bnd e
  obtain ⟨x, z, g1, g2, ez, rfl⟩ := rd1_some e
  obtain ⟨xs, rfl, hs⟩ := srtD_some g2
  rcases hs with ⟨ns, hn, rfl⟩ | ⟨ts, rfl, ok, ne, rfl⟩
  · exact ⟨_, ez⟩
  · exact ⟨_, ez⟩
theorem sset_list {m : E} : ∀ (ρ : Rho) (μ : Store) (r : Val) (μ' : Store), evE C F (.sset m) ρ μ = some (r, μ') → ∃ ds, r = .d (.list ds) := by
  intro ρ μ r μ' e
  simp only [evE] at e
  obtain ⟨⟨v, μ1⟩, e1, e⟩ := bnd e
  obtain ⟨x, z, g1, g2, ez, rfl⟩ := rd1_some e
  obtain ⟨xs, hx, hs⟩ := ssetD_some g2
  rcases hs with ⟨ns, hn, hl, h64, rfl⟩ | ⟨ts, rfl, ok, ne, rfl⟩
  · exact ⟨_, ez⟩
  · exact ⟨_, ez⟩
end Mu

namespace Mu
open PySem PySem.Spec PyProof.Rows L2 LamX NdefX
variable {X : Cx} {S : ST} {O : OF} {c : Sc} {C : Cons} {k : Nat} {F : Calls}

theorem compL_nil {ok : Store → Prop} {f : D → Store → Option (List D × Store)} {μ μ' : Store} {ys : List D} (h : compL ok f [] μ = some (ys, μ')) : ok μ ∧ ys = [] ∧ μ' = μ := by
  simp only [compL] at h
  split at h
  · rename_i q; cases h; exact ⟨q, rfl, rfl⟩
  · cases h
theorem compL_cons {ok : Store → Prop} {f : D → Store → Option (List D × Store)} {x : D} {xs : List D} {μ μ' : Store} {ys : List D} (h : compL ok f (x :: xs) μ = some (ys, μ')) :
    ok μ ∧ ∃ zs μ1 ws, f x μ = some (zs, μ1) ∧ compL ok f xs μ1 = some (ws, μ') ∧ ys = zs ++ ws := by
  simp only [compL] at h
  split at h
  · rename_i q
    obtain ⟨⟨zs, μ1⟩, e1, h⟩ := bnd h
    obtain ⟨⟨ws, μ2⟩, e2, h⟩ := bnd h
    cases h
    exact ⟨q, zs, μ1, ws, e1, e2, rfl⟩
  · cases h
theorem own_snd (N : List Str) (own : List Nat) : (ownP N own).map (·.2) = own := by
  unfold ownP
  rw [List.map_map]
  exact List.map_id own
theorem drop_cons {α : Type} {xs : List α} {i : Nat} {d : α} (h : xs[i]? = some d) : xs.drop i = d :: xs.drop (i + 1) := by
  obtain ⟨hi, e⟩ := List.getElem?_eq_some_iff.mp h
  rw [List.drop_eq_getElem_cons hi, e]
/-- one turn's end: an item kept -/
abbrev TurnF := Rho → Store → Option (Bool × Store)
theorem snd_comp (g : Good X S O c C k F) {own : List Nat} {tg : Tg} {it : It} {cs : Es} {elt : E} {tg' iter elt' : Expr} {ifs : List Expr} {scope : Scope} {pos : Pos} (hi : PI X tg' iter (tvI X.K S O (evI C F it))) (pi : plainX iter = true) (ok : blkC X.N X.env.scope scope (ownP c.N own) = true)
    (hix : ∀ i ∈ tg.ix, i ∈ own)
    (hg : ∀ (s : Shared) (H : Hp) (A : Addr) (cl : List (Str × Addr)) (fp : List Addr), PG (X.blk s H scope (compEnvC scope cl A X.env) fp) tg' (gOf X.K tg))
    (ht : ∀ (s : Shared) (H : Hp) (A : Addr) (cl : List (Str × Addr)) (fp : List Addr), PTs (X.blk s H scope (compEnvC scope cl A X.env) fp) ifs (tvT X.K S O (evCs C F cs)))
    (he : ∀ (s : Shared) (H : Hp) (A : Addr) (cl : List (Str × Addr)) (fp : List Addr), PE (X.blk s H scope (compEnvC scope cl A X.env) fp) elt' (tv X.K S O (evE C F elt))) :
    PE X (.ListComp elt' [⟨tg', iter, ifs, 0⟩] scope pos) (tvN X.K S O (evE C F (.comp own tg it cs elt))) ∧
    (∀ {i : Nat} {y : Str} {py spos : Pos}, X.N[i]? = some y → X.env.scope.names.lookup y = some .local → swapsWith (.ListComp elt' [⟨tg', iter, ifs, 0⟩] scope pos) (some (.Name y py)) spos.line X.env = pure true →
      PS X (.Assign [.Name y py] (.ListComp elt' [⟨tg', iter, ifs, 0⟩] scope pos) spos) (tAsg (tvN X.K S O (evE C F (.comp own tg it cs elt))) (gName i))) := by
  have go : ∀ σ H Q, tvN X.K S O (evE C F (.comp own tg it cs elt)) σ H Q → tLc (tvI X.K S O (evI C F it)) (gOf X.K tg) (tvT X.K S O (evCs C F cs)) (tv X.K S O (evE C F elt)) ((ownP c.N own).map (·.2)) σ H Q := by
    intro σ H Q q
    rw [own_snd]
    obtain ⟨Fr, M, G, ρ, μ, ds0, μ40, s, rr, e, q⟩ := q
    simp only [evE] at e
    obtain ⟨⟨⟨xs, v⟩, μ1⟩, e1, e⟩ := bnd e
    obtain ⟨⟨ys, μ4⟩, e2, e⟩ := bnd e
    cases e
    refine ⟨Fr, M, G, ρ, μ, xs, v, μ1, s, rr, e1, fun J H1 G1 l1 s1 n1 hz _ wk p hp => ?_⟩
    have fp := s1.frFree hp
    refine ⟨fun i m H => m = xs.length - i ∧ i ≤ xs.length ∧ ∃ (G2 : Hp) (μi : Store) (acc : List V) (ds rest : List D), SS X.K S (upd Fr p (.lst acc)) M G2 H μi ∧ Le G1 G2 ∧ μi.length = μ1.length ∧ RpA X.K G2 acc ds ∧ ds.length ≤ i ∧
      compL (Still v xs) (fun x μ1 => (tgS (wipeR ρ own) tg x).bind fun ρ1 => (evCs C F cs ρ1 μ1).bind fun (k, μ2) =>
        if k = true then (toF (evE C F elt ρ1 μ2)).bind fun (y, μ3) => some ([y], μ3) else some ([], μ2)) (xs.drop i) μi = some (rest, μ4) ∧ ds ++ rest = ys,
      ⟨xs.length, by omega, Nat.zero_le _, G1, μ1, [], [], ys, s1.guard hp, Le.rfl' _, rfl, .nil, Nat.le_refl _, e2, rfl⟩, ?_⟩
    rintro i m H2 ⟨rfl, hi2, G2, μi, acc, ds, rest, s2, l2, n2, r2, z2, e3, e4⟩
    have s2' := s2.unguard fp
    by_cases hlt : i < xs.length
    · have hx : xs[i]? = some xs[i] := List.getElem?_eq_getElem hlt
      rw [drop_cons hx] at e3
      obtain ⟨st, zs, μ6, ws, e5, e6, rfl⟩ := compL_cons e3
      obtain ⟨ρ1, e7, e5⟩ := bnd e5
      obtain ⟨⟨b, μ7⟩, e8, e5⟩ := bnd e5
      refine .inr ⟨wk.go _ _ i H2 G2 μi s2 l2 (.rf _ _) st hlt, fun H => i + 1 ≤ xs.length ∧ ∃ (G2 : Hp) (μi : Store) (acc : List V) (ds rest : List D), SS X.K S (upd Fr p (.lst acc)) M G2 H μi ∧ Le G1 G2 ∧ μi.length = μ1.length ∧ RpA X.K G2 acc ds ∧ ds.length ≤ i + 1 ∧
        compL (Still v xs) (fun x μ1 => (tgS (wipeR ρ own) tg x).bind fun ρ1 => (evCs C F cs ρ1 μ1).bind fun (k, μ2) =>
          if k = true then (toF (evE C F elt ρ1 μ2)).bind fun (y, μ3) => some ([y], μ3) else some ([], μ2)) (xs.drop (i + 1)) μi = some (rest, μ4) ∧ ds ++ rest = ys,
        fun H' ⟨a, b⟩ => ⟨xs.length - (i + 1), by omega, rfl, a, b⟩, fun x H' y => ?_⟩
      obtain ⟨G2n, lG, s2, d, hd, rd⟩ := wk.yld _ _ i H2 G2 μi x H' s2 l2 (.rf _ _) st hlt y
      rw [hx] at hd
      cases hd
      have l2 := l2.trans lG
      have r2 := r2.mono lG
      have rrw : RR X.K S O M G2n (wipeR ρ own) (wipe σ own) := (rr.mono (l1.trans l2)).wiped own
      refine tg_go s2 rrw rd e7 fun σ1 rr1 hw => ⟨by rw [hw own hix, wipe_idem], ?_⟩
      refine tvT_go s2 rr1 e8 fun H3 G3 l3 s3 n3 => ?_
      cases b with
      | true =>
        try dsimp only at e5
        rw [if_pos rfl] at e5 ⊢
        obtain ⟨⟨y, μ8⟩, e9, e5⟩ := bnd e5
        cases e5
        obtain ⟨⟨w, μ9⟩, e10, e9⟩ := bnd e9
        refine tv_go s3 (rr1.mono l3) e10 fun u H4 G4 l4 s4 n4 r4 => ?_
        obtain ⟨G5, l5, s5, r5, n5⟩ := s4.frzV r4 e9
        refine ⟨acc, s5.held, ?_, hlt, G5, _, acc ++ [u], ds ++ [y], ws, s5.grown, l2.trans (l3.trans (l4.trans l5)), n5.trans (n4.trans (n3.trans n2)), (r2.mono (l3.trans (l4.trans l5))).append (.cons r5 .nil), by simp; omega, e6, by rw [← e4]; simp⟩
        rw [r2.length]
        omega
      | false =>
        try dsimp only at e5
        rw [if_neg Bool.false_ne_true] at e5 ⊢
        cases e5
        exact ⟨hlt, G3, _, acc, ds, ws, s3, l2.trans l3, n3.trans n2, r2.mono l3, by omega, e6, by rw [← e4]; rfl⟩
    · have ei : i = xs.length := by omega
      subst ei
      rw [List.drop_length] at e3
      obtain ⟨st, rfl, rfl⟩ := compL_nil e3
      rw [List.append_nil] at e4
      subst e4
      obtain ⟨gp, mp⟩ := s2.apart
      exact .inl ⟨wk.stop _ _ H2 G2 _ s2 l2 (.rf _ _) st, q p acc H2 G2 (l1.trans l2) s2' (n2.trans n1) s2.held gp fp mp r2 (Nat.le_trans z2 hz)⟩
  refine ⟨(pe_lc g.calm g.nd hi (blkOk_by ok) hg ht he fun x => folded_of pi).wk go, fun {i y py spos} h1 h2 h3 => ?_⟩
  refine ⟨fun pins s σ H Dn I q => (ps_setLc g.calm g.nd h1 h2 h3 hi (blkOk_by ok) hg ht he fun x => folded_of pi).run pins s σ H Dn I ?_⟩
  exact go σ H _ q

theorem snd_comp2 (g : Good X S O c C k F) {own : List Nat} {tg tg1 : Tg} {it it1 : It} {cs : Es} {elt : E} {tg' iter tg1' iter1 elt' : Expr} {ifs : List Expr} {scope : Scope} {pos : Pos} (hi : PI X tg' iter (tvI X.K S O (evI C F it))) (pi : plainX iter = true) (pi1 : plainX iter1 = true) (ok : blkC X.N X.env.scope scope (ownP c.N own) = true)
    (hix : ∀ i ∈ tg.ix, i ∈ own) (hix1 : ∀ i ∈ tg1.ix, i ∈ own)
    (hg : ∀ (s : Shared) (H : Hp) (A : Addr) (cl : List (Str × Addr)) (fp : List Addr), PG (X.blk s H scope (compEnvC scope cl A X.env) fp) tg' (gOf X.K tg))
    (hi1 : ∀ (s : Shared) (H : Hp) (A : Addr) (cl : List (Str × Addr)) (fp : List Addr), PI (X.blk s H scope (compEnvC scope cl A X.env) fp) tg1' iter1 (tvI X.K S O (evI C F it1)))
    (hg1 : ∀ (s : Shared) (H : Hp) (A : Addr) (cl : List (Str × Addr)) (fp : List Addr), PG (X.blk s H scope (compEnvC scope cl A X.env) fp) tg1' (gOf X.K tg1))
    (ht : ∀ (s : Shared) (H : Hp) (A : Addr) (cl : List (Str × Addr)) (fp : List Addr), PTs (X.blk s H scope (compEnvC scope cl A X.env) fp) ifs (tvT X.K S O (evCs C F cs)))
    (he : ∀ (s : Shared) (H : Hp) (A : Addr) (cl : List (Str × Addr)) (fp : List Addr), PE (X.blk s H scope (compEnvC scope cl A X.env) fp) elt' (tv X.K S O (evE C F elt))) :
    PE X (.ListComp elt' [⟨tg', iter, [], 0⟩, ⟨tg1', iter1, ifs, 0⟩] scope pos) (tvN X.K S O (evE C F (.comp2 own tg it tg1 it1 cs elt))) ∧
    (∀ {i : Nat} {y : Str} {py spos : Pos}, X.N[i]? = some y → X.env.scope.names.lookup y = some .local → swapsWith (.ListComp elt' [⟨tg', iter, [], 0⟩, ⟨tg1', iter1, ifs, 0⟩] scope pos) (some (.Name y py)) spos.line X.env = pure true →
      PS X (.Assign [.Name y py] (.ListComp elt' [⟨tg', iter, [], 0⟩, ⟨tg1', iter1, ifs, 0⟩] scope pos) spos) (tAsg (tvN X.K S O (evE C F (.comp2 own tg it tg1 it1 cs elt))) (gName i))) := by
  have go : ∀ σ H Q, tvN X.K S O (evE C F (.comp2 own tg it tg1 it1 cs elt)) σ H Q → tLc2 (tvI X.K S O (evI C F it)) (gOf X.K tg) tYes (tvI X.K S O (evI C F it1)) (gOf X.K tg1) (tvT X.K S O (evCs C F cs)) (tv X.K S O (evE C F elt)) ((ownP c.N own).map (·.2)) tg1.ix σ H Q := by
    intro σ H Q q
    rw [own_snd]
    obtain ⟨Fr, M, G, ρ, μ, ds0, μ40, s, rr, e, q⟩ := q
    simp only [evE] at e
    obtain ⟨⟨⟨xs, v⟩, μ1⟩, e1, e⟩ := bnd e
    obtain ⟨⟨ys, μ4⟩, e2, e⟩ := bnd e
    split at e
    rotate_left
    · cases e
    rename_i hys
    cases e
    refine ⟨Fr, M, G, ρ, μ, xs, v, μ1, s, rr, e1, fun J H1 G1 l1 s1 n1 hz _ wk p hp => ?_⟩
    have fp := s1.frFree hp
    refine ⟨fun i m H => m = xs.length - i ∧ i ≤ xs.length ∧ ∃ (G2 : Hp) (μi : Store) (acc : List V) (ds rest : List D), SS X.K S (upd Fr p (.lst acc)) M G2 H μi ∧ Le G1 G2 ∧ μi.length = μ1.length ∧ RpA X.K G2 acc ds ∧
      compL (Still v xs) (fun x μ1 => (tgS (wipeR ρ own) tg x).bind fun ρ1 => (evI C F it1 ρ1 μ1).bind fun ((ys, w), μ2) =>
        compL (Still w ys) (fun y μ2 => (tgS (wipeR ρ1 tg1.ix) tg1 y).bind fun ρ2 => (evCs C F cs ρ2 μ2).bind fun (k, μ3) =>
          if k = true then (toF (evE C F elt ρ2 μ3)).bind fun (z, μ4) => some ([z], μ4) else some ([], μ3)) ys μ2) (xs.drop i) μi = some (rest, μ4) ∧ ds ++ rest = ys,
      ⟨xs.length, by omega, Nat.zero_le _, G1, μ1, [], [], ys, s1.guard hp, Le.rfl' _, rfl, .nil, e2, rfl⟩, ?_⟩
    rintro i m H2 ⟨rfl, hi2, G2, μi, acc, ds, rest, s2, l2, n2, r2, e3, e4⟩
    have s2' := s2.unguard fp
    by_cases hlt : i < xs.length
    · have hx : xs[i]? = some xs[i] := List.getElem?_eq_getElem hlt
      rw [drop_cons hx] at e3
      obtain ⟨st, zs, μ6, ws, e5, e6, rfl⟩ := compL_cons e3
      obtain ⟨ρ1, e7, e5⟩ := bnd e5
      obtain ⟨⟨⟨xs1, v1⟩, μ7⟩, e8, e5⟩ := bnd e5
      refine .inr ⟨wk.go _ _ i H2 G2 μi s2 l2 (.rf _ _) st hlt, fun H => i + 1 ≤ xs.length ∧ ∃ (G2 : Hp) (μi : Store) (acc : List V) (ds rest : List D), SS X.K S (upd Fr p (.lst acc)) M G2 H μi ∧ Le G1 G2 ∧ μi.length = μ1.length ∧ RpA X.K G2 acc ds ∧
        compL (Still v xs) (fun x μ1 => (tgS (wipeR ρ own) tg x).bind fun ρ1 => (evI C F it1 ρ1 μ1).bind fun ((ys, w), μ2) =>
          compL (Still w ys) (fun y μ2 => (tgS (wipeR ρ1 tg1.ix) tg1 y).bind fun ρ2 => (evCs C F cs ρ2 μ2).bind fun (k, μ3) =>
            if k = true then (toF (evE C F elt ρ2 μ3)).bind fun (z, μ4) => some ([z], μ4) else some ([], μ3)) ys μ2) (xs.drop (i + 1)) μi = some (rest, μ4) ∧ ds ++ rest = ys,
        fun H' ⟨a, b⟩ => ⟨xs.length - (i + 1), by omega, rfl, a, b⟩, fun x H' y => ?_⟩
      obtain ⟨G2n, lG, s2, d, hd, rd⟩ := wk.yld _ _ i H2 G2 μi x H' s2 l2 (.rf _ _) st hlt y
      rw [hx] at hd
      cases hd
      have l2 := l2.trans lG
      have r2 := r2.mono lG
      have rrw : RR X.K S O M G2n (wipeR ρ own) (wipe σ own) := (rr.mono (l1.trans l2)).wiped own
      refine tg_go s2 rrw rd e7 fun σ1 rr1 hw => ⟨by rw [hw own hix, wipe_idem], ?_⟩
      unfold tYes
      dsimp only
      rw [if_pos rfl]
      refine ⟨upd Fr p (.lst acc), M, G2n, ρ1, μi, xs1, v1, μ7, s2, rr1, e8, fun J1 H3 G3 l3 s3 n3 hz3 _ wk1 => ?_⟩
      refine ⟨fun j m H => m = xs1.length - j ∧ j ≤ xs1.length ∧ ∃ (G4 : Hp) (μj : Store) (acc : List V) (es rest : List D), SS X.K S (upd Fr p (.lst acc)) M G4 H μj ∧ Le G3 G4 ∧ μj.length = μ1.length ∧ RpA X.K G4 acc es ∧
        compL (Still v1 xs1) (fun y μ2 => (tgS (wipeR ρ1 tg1.ix) tg1 y).bind fun ρ2 => (evCs C F cs ρ2 μ2).bind fun (k, μ3) =>
          if k = true then (toF (evE C F elt ρ2 μ3)).bind fun (z, μ4) => some ([z], μ4) else some ([], μ3)) (xs1.drop j) μj = some (rest, μ6) ∧ es ++ rest = ds ++ zs,
        ⟨xs1.length, by omega, Nat.zero_le _, G3, μ7, acc, ds, zs, s3, Le.rfl' _, n3.trans n2, r2.mono l3, e5, rfl⟩, ?_⟩
      rintro j m H4 ⟨rfl, hj, G4, μj, acc4, es, rest4, s4, l4, n4, r4, e9, e10⟩
      by_cases hlj : j < xs1.length
      · have hx1 : xs1[j]? = some xs1[j] := List.getElem?_eq_getElem hlj
        rw [drop_cons hx1] at e9
        obtain ⟨st1, zs1, μ8, ws1, e11, e12, rfl⟩ := compL_cons e9
        obtain ⟨ρ2, e13, e11⟩ := bnd e11
        obtain ⟨⟨b, μ9⟩, e14, e11⟩ := bnd e11
        refine .inr ⟨wk1.go _ _ j H4 G4 μj s4 l4 (.rf _ _) st1 hlj, fun H => j + 1 ≤ xs1.length ∧ ∃ (G4 : Hp) (μj : Store) (acc : List V) (es rest : List D), SS X.K S (upd Fr p (.lst acc)) M G4 H μj ∧ Le G3 G4 ∧ μj.length = μ1.length ∧ RpA X.K G4 acc es ∧
          compL (Still v1 xs1) (fun y μ2 => (tgS (wipeR ρ1 tg1.ix) tg1 y).bind fun ρ2 => (evCs C F cs ρ2 μ2).bind fun (k, μ3) =>
            if k = true then (toF (evE C F elt ρ2 μ3)).bind fun (z, μ4) => some ([z], μ4) else some ([], μ3)) (xs1.drop (j + 1)) μj = some (rest, μ6) ∧ es ++ rest = ds ++ zs,
          fun H' ⟨a, b⟩ => ⟨xs1.length - (j + 1), by omega, rfl, a, b⟩, fun x1 H' y1 => ?_⟩
        obtain ⟨G4n, lG4, s4, d1, hd1, rd1⟩ := wk1.yld _ _ j H4 G4 μj x1 H' s4 l4 (.rf _ _) st1 hlj y1
        rw [hx1] at hd1
        cases hd1
        have l4 := l4.trans lG4
        have r4 := r4.mono lG4
        have rrw1 : RR X.K S O M G4n (wipeR ρ1 tg1.ix) (wipe σ1 tg1.ix) := (rr1.mono (l3.trans l4)).wiped tg1.ix
        refine tg_go s4 rrw1 rd1 e13 fun σ2 rr2 hw2 => ⟨by rw [hw2 tg1.ix (fun i hi => hi), wipe_idem], ?_⟩
        refine tvT_go s4 rr2 e14 fun H5 G5 l5 s5 n5 => ?_
        cases b with
        | true =>
          try dsimp only at e11
          rw [if_pos rfl] at e11 ⊢
          obtain ⟨⟨z, μ10⟩, e15, e11⟩ := bnd e11
          cases e11
          obtain ⟨⟨w, μ11⟩, e16, e15⟩ := bnd e15
          refine tv_go s5 (rr2.mono l5) e16 fun u H6 G6 l6 s6 n6 r6 => ?_
          obtain ⟨G7, l7, s7, r7, n7⟩ := s6.frzV r6 e15
          have lenz : es.length + 1 ≤ sizeLine := by
            have h1 := congrArg List.length e10
            have h2 := congrArg List.length e4
            have h3 : ys.length ≤ sizeLine := hys
            simp only [List.length_append, List.length_cons, List.length_nil] at h1 h2
            clear hys
            omega
          exact ⟨acc4, s7.held, by rw [r4.length]; omega, hlj, G7, _, acc4 ++ [u], es ++ [z], ws1, s7.grown, l4.trans (l5.trans (l6.trans l7)), n7.trans (n6.trans (n5.trans n4)), (r4.mono (l5.trans (l6.trans l7))).append (.cons r7 .nil), e12, by rw [← e10]; simp⟩
        | false =>
          try dsimp only at e11
          rw [if_neg Bool.false_ne_true] at e11 ⊢
          cases e11
          exact ⟨hlj, G5, _, acc4, es, ws1, s5, l4.trans l5, n5.trans n4, r4.mono l5, e12, by rw [← e10]; rfl⟩
      · have ej : j = xs1.length := by omega
        subst ej
        rw [List.drop_length] at e9
        obtain ⟨st1, rfl, rfl⟩ := compL_nil e9
        rw [List.append_nil] at e10
        exact .inl ⟨wk1.stop _ _ H4 G4 _ s4 l4 (.rf _ _) st1, hlt, G4, _, acc4, es, ws, s4, l2.trans (l3.trans l4), n4, r4, e6, by rw [e10, List.append_assoc]; exact e4⟩
    · have ei : i = xs.length := by omega
      subst ei
      rw [List.drop_length] at e3
      obtain ⟨st, rfl, rfl⟩ := compL_nil e3
      rw [List.append_nil] at e4
      subst e4
      obtain ⟨gp, mp⟩ := s2.apart
      exact .inl ⟨wk.stop _ _ H2 G2 _ s2 l2 (.rf _ _) st, q p acc H2 G2 (l1.trans l2) s2' (n2.trans n1) s2.held gp fp mp r2 hys⟩
  refine ⟨(pe_lc2 g.calm g.nd hi (blkOk_by ok) (by rw [own_snd]; exact hix1) hg (fun _ _ _ _ _ => pts_nil) hi1 hg1 ht he (fun x => folded_of pi) (fun env x => folded_of pi1)).wk go, fun {i y py spos} h1 h2 h3 => ?_⟩
  refine ⟨fun pins s σ H Dn I q => (ps_setLc2 g.calm g.nd h1 h2 h3 hi (blkOk_by ok) (by rw [own_snd]; exact hix1) hg (fun _ _ _ _ _ => pts_nil) hi1 hg1 ht he (fun x => folded_of pi) (fun env x => folded_of pi1)).run pins s σ H Dn I ?_⟩
  exact go σ H _ q
end Mu

namespace Mu
open PySem PySem.Spec PyProof.Rows L2 LamX NdefX
variable {S : ST} {O : OF} {c : Sc} {C : Cons} {k : Nat} {F : Calls}

/-! ### heaps with cells told, and without -/
def LeD (G H : Hp) : Prop := ∀ a o, G a = some o → (∀ φ, o ≠ .ext φ) → H a = some o
section
variable {K : PySem.W.Frag} {G H : Hp}
theorem LeD.lsx {a : Addr} {vs : List V} (e : LeD G H) (h : LsX K G a vs) : LsX K H a vs := by
  rcases h with (h | ⟨o, h⟩) | h
  · exact .inl (.inl (e _ _ h fun φ z => by cases z))
  · exact .inl (.inr ⟨o, e _ _ h fun φ z => by cases z⟩)
  · exact .inr h
theorem LeD.sqt {a : Addr} {vs : List V} (e : LeD G H) (h : SqT K G a vs) : SqT K H a vs := by
  rcases h with (h | ⟨o, h⟩) | h
  · exact .inl (.inl (e _ _ h fun φ z => by cases z))
  · exact .inl (.inr ⟨o, e _ _ h fun φ z => by cases z⟩)
  · exact .inr h
mutual
theorem Rp.leD (e : LeD G H) : ∀ {x : D} {v : V}, Rp K G v x → Rp K H v x
  | .none, _, h => by cases h; exact .non
  | .bool _, _, h => by cases h; exact .bl _
  | .int _, _, h => by cases h; exact .int _
  | .str _, _, h => by cases h; exact .str _
  | .list ds, _, h => by
    cases h with
    | lst h r z => exact .lst (e.lsx h) (RpA.leD e r) z
  | .tuple ds, _, h => by
    cases h with
    | tup h r z => exact .tup (e.sqt h) (RpA.leD e r) z
  | .dict _, _, h => by
    cases h with
    | dct h => exact .dct (e _ _ h fun φ z => by cases z)
theorem RpA.leD (e : LeD G H) : ∀ {xs : List D} {vs : List V}, RpA K G vs xs → RpA K H vs xs
  | [], _, h => by cases h; exact .nil
  | x :: xs, _, h => by
    cases h with
    | cons h t => exact .cons (Rp.leD e h) (RpA.leD e t)
end
end
/-- p's addresses hold cells, told in H -/
def Cel (p : Addr → Prop) (H : Hp) : Prop := ∀ b, p b → ∃ o v, H b = some (CelO b o) ∧ o.data = .cell v
theorem leD_drop {p : Addr → Prop} {G : Hp} (h : Cel p G) : LeD G (dropC G p) := fun a o e n => by
  by_cases q : p a
  · obtain ⟨o', v, h1, _⟩ := h a q
    rw [h1] at e
    exact absurd (Option.some.inj e).symm (n _)
  · rw [dropC_of q]; exact e
theorem le_of_drop {p : Addr → Prop} {G : Hp} : Le (dropC G p) G := fun a o e => (dropC_some e).1
open Classical in
noncomputable def addC (H : Hp) (p : Addr → Prop) (h : Heap) : Hp := fun b => if p b then (h.get? b).map (CelO b) else H b
open Classical in
noncomputable def mixC (H : Hp) (p : Addr → Prop) (H' : Hp) : Hp := fun b => if p b then H b else H' b
theorem addC_in {H : Hp} {p : Addr → Prop} {h : Heap} {b : Addr} {o : Obj} (q : p b) (e : h.get? b = some o) : addC H p h b = some (CelO b o) := by
  unfold addC; rw [if_pos q, e]; rfl
theorem addC_of {H : Hp} {p : Addr → Prop} {h : Heap} {b : Addr} (q : ¬ p b) : addC H p h b = H b := if_neg q
theorem mixC_in {H H' : Hp} {p : Addr → Prop} {b : Addr} (q : p b) : mixC H p H' b = H b := if_pos q
theorem mixC_of {H H' : Hp} {p : Addr → Prop} {b : Addr} (q : ¬ p b) : mixC H p H' b = H' b := if_neg q
theorem le_addC {H : Hp} {p : Addr → Prop} {h : Heap} (n : ∀ b, p b → H b = none) : Le H (addC H p h) := fun a o e => by
  rw [addC_of (fun q => by rw [n a q] at e; cases e)]; exact e
theorem celO_ok {P : Program} {w : World} {H : Hp} {h : Heap} {b : Addr} {o : Obj} (e : h.get? b = some o) : ObjOk P w H h b (CelO b o) := ⟨e, ⟨o, e⟩, fun _ _ z k => k _ z⟩
theorem celO_at {P : Program} {w : World} {H : Hp} {h : Heap} {b : Addr} {o : Obj} (x : HOk P w H h) (e : H b = some (CelO b o)) : h.get? b = some o := (x b _ e).1
section
variable {P : Program} {w : World} {H : Hp} {h : Heap} {p : Addr → Prop}
theorem hok_drop (x : HOk P w H h) (n : Cel p H) : HOk P w (dropC H p) h := fun b u e => by
  obtain ⟨e1, n1⟩ := dropC_some e
  refine (x b u e1).stay (fun c v _ q => q) (fun c q => ?_) fun c xs q => ?_
  · rw [dropC_of (fun z => by obtain ⟨o, v, h1, _⟩ := n c z; rw [h1] at q; cases q)]; exact q
  · rw [dropC_of (fun z => by obtain ⟨o, v, h1, _⟩ := n c z; rw [h1] at q; cases q)]; exact q
theorem hok_add (x : HOk P w H h) (n : ∀ b, p b → H b = none) : HOk P w (addC H p h) h := fun b u e => by
  by_cases q : p b
  · unfold addC at e
    rw [if_pos q] at e
    obtain ⟨o, ho, rfl⟩ := Option.map_eq_some_iff.mp e
    exact celO_ok ho
  · rw [addC_of q] at e
    exact (x b u e).stay (fun c v _ q => q) (fun c q => le_addC n _ _ q) fun c xs q => le_addC n _ _ q
end
/-- two descriptions of one object -/
theorem cel_code {P : Program} {w : World} {H : Hp} {h : Heap} (x : HOk P w H h) {b : Addr} {o : Obj} {v : Option Value} {q : Str} (e : H b = some (CelO b o)) (d : o.data = .cell v) (e2 : H b = some (CodeO b q)) : False := by
  have h1 := celO_at x e
  obtain ⟨⟨oc, vs, t, h2, h3, _⟩, _, _⟩ := x b _ e2
  rw [h1] at h2
  cases h2
  rw [d] at h3
  cases h3
theorem tabs_drop {P : Program} {w : World} {H : Hp} {h : Heap} {p : Addr → Prop} {T : List NTab} (x : HOk P w H h) (n : Cel p H) (t : TabsN T H) : TabsN T (dropC H p) := fun y hy => by
  obtain ⟨ps, h1, h2, h3⟩ := t y hy
  refine ⟨ps, ?_, h2, fun pos cv hc => ?_⟩
  · rw [dropC_of (fun z => by obtain ⟨o, v, e, _⟩ := n _ z; rw [e] at h1; cases h1)]; exact h1
  · obtain ⟨c, e1, e2⟩ := h3 pos cv hc
    exact ⟨c, e1, by rw [dropC_of (fun z => by obtain ⟨o, v, e, d⟩ := n _ z; exact cel_code x e d e2)]; exact e2⟩
section
variable {K : PySem.W.Frag} {Fr : Hp} {M : Nat → Addr} {G H : Hp} {μ : Store} {p : Addr → Prop} {h : Heap}
theorem SS.addC (s : SS K S Fr M G H μ) (n : ∀ b, p b → H b = none) : SS K S Fr M (Mu.addC G p h) (Mu.addC H p h) μ ∧ Le G (Mu.addC G p h) := by
  have gn : ∀ b, p b → G b = none := fun b q => s.free (n b q)
  have np : ∀ b o, H b = some o → ¬ p b := fun b o e q => by rw [n b q] at e; cases e
  refine ⟨⟨fun a u e => ?_, fun i ds e => ?_, fun i ds e => ?_, s.inj, s.frm.trans (le_addC n), fun a u e => ?_, s.frM, s.tab.tab.ext (le_addC n), fun b ps e => ?_, s.tab.frL⟩, le_addC gn⟩
  · by_cases q : p a
    · unfold Mu.addC at e ⊢
      rw [if_pos q] at e ⊢
      exact e
    · rw [addC_of q] at e ⊢
      exact s.sub a u e
  · obtain ⟨vs, h1, h2, z⟩ := s.cell i ds e
    exact ⟨vs, le_addC n _ _ h1, h2.mono (le_addC gn), z⟩
  · obtain ⟨vs, h1, _⟩ := s.cell i ds e
    rw [addC_of (np _ _ h1)]; exact s.out i ds e
  · rw [addC_of (np _ _ (s.frm a u e))]; exact s.frG a u e
  · by_cases q : p b
    · unfold Mu.addC at e
      rw [if_pos q] at e
      obtain ⟨o, _, z⟩ := Option.map_eq_some_iff.mp e
      cases z
    · rw [addC_of q] at e; exact s.tab.nt b ps e
theorem SS.dropC {P : Program} {w : World} (s : SS K S Fr M G H μ) (x : HOk P w H h) (n : Cel p G) : SS K S Fr M (Mu.dropC G p) (Mu.dropC H p) μ := by
  have nH : Cel p H := fun b q => let ⟨o, v, e, d⟩ := n b q; ⟨o, v, s.sub _ _ e, d⟩
  have np : ∀ b, (∃ vs, H b = some (.lst vs)) → ¬ p b := fun b ⟨vs, e⟩ q => by obtain ⟨o, v, e2, _⟩ := nH b q; rw [e2] at e; cases e
  refine ⟨fun a u e => ?_, fun i ds e => ?_, fun i ds e => ?_, s.inj, fun a u e => ?_, fun a u e => ?_, s.frM, tabs_drop x nH s.tab.tab, fun b ps e => s.tab.nt b ps (dropC_some e).1, s.tab.frL⟩
  · obtain ⟨e1, n1⟩ := dropC_some e
    rw [dropC_of n1]; exact s.sub a u e1
  · obtain ⟨vs, h1, h2, z⟩ := s.cell i ds e
    exact ⟨vs, by rw [dropC_of (np _ ⟨vs, h1⟩)]; exact h1, h2.leD (leD_drop n), z⟩
  · exact dropC_none (s.out i ds e)
  · rw [dropC_of (fun q => by obtain ⟨o, v, e2, _⟩ := n a q; rw [s.frG a u e] at e2; cases e2)]; exact s.frm a u e
  · exact dropC_none (s.frG a u e)
theorem SS.mix {G' H' : Hp} {μ' : Store} (s' : SS K S Fr M G' H' μ') (lG : Le (Mu.dropC G p) G') (n : ∀ b, p b → H' b = none) (sb : ∀ b o, p b → G b = some o → H b = some o) (nt : ∀ b ps, G b ≠ some (.tbl ps)) :
    SS K S Fr M (mixC G p G') (mixC H p H') μ' ∧ Le G (mixC G p G') ∧ Le G' (mixC G p G') := by
  have gn : ∀ b, p b → G' b = none := fun b q => s'.free (n b q)
  have np : ∀ b o, H' b = some o → ¬ p b := fun b o e q => by rw [n b q] at e; cases e
  have lH : Le H' (mixC H p H') := fun a o e => by rw [mixC_of (np a o e)]; exact e
  have lG' : Le G' (mixC G p G') := fun a o e => by rw [mixC_of (fun q => by rw [gn a q] at e; cases e)]; exact e
  refine ⟨⟨fun a u e => ?_, fun i ds e => ?_, fun i ds e => ?_, s'.inj, s'.frm.trans lH, fun a u e => ?_, s'.frM, s'.tab.tab.ext lH, fun b ps e => ?_, s'.tab.frL⟩, fun a o e => ?_, lG'⟩
  · by_cases q : p a
    · rw [mixC_in q] at e ⊢; exact sb a u q e
    · rw [mixC_of q] at e ⊢; exact s'.sub a u e
  · obtain ⟨vs, h1, h2, z⟩ := s'.cell i ds e
    exact ⟨vs, lH _ _ h1, h2.mono lG', z⟩
  · obtain ⟨vs, h1, _⟩ := s'.cell i ds e
    rw [mixC_of (np _ _ h1)]; exact s'.out i ds e
  · rw [mixC_of (np _ _ (s'.frm a u e))]; exact s'.frG a u e
  · by_cases q : p b
    · rw [mixC_in q] at e; exact nt b ps e
    · rw [mixC_of q] at e; exact s'.tab.nt b ps e
  · by_cases q : p a
    · rw [mixC_in q]; exact e
    · rw [mixC_of q]; exact lG a o (by rw [dropC_of q]; exact e)
/-- functions just made are ours to read -/
theorem SS.made {H1 : Hp} {f c' : Addr} {oF oC : HO} (s : SS K S Fr M G H μ) (eN : ExtN H H1) (T1 : TabsN S.tabs H1) (f0 : H f = none) (f1 : H1 f = some oF) (c1 : H1 c' = some oC) (xF : ∃ φ, oF = .ext φ) (xC : ∃ φ, oC = .ext φ) :
    ∃ G1, Le G G1 ∧ SS K S Fr M G1 H1 μ ∧ G1 f = some oF ∧ G1 c' = some oC := by
  have up : ∀ b o, G b = some o → H1 b = some o := fun b o e => eN b o (s.sub b o e) fun ps z => s.tab.nt b ps (by rw [← z]; exact e)
  have upL : ∀ b vs, H b = some (.lst vs) → H1 b = some (.lst vs) := fun b vs e => eN b _ e fun ps z => by cases z
  have le : Le G (fun b => if b = f ∨ b = c' then H1 b else G b) := fun b o e => by
    by_cases q : b = f ∨ b = c'
    · simp only [if_pos q]; exact up b o e
    · simp only [if_neg q]; exact e
  have nl : ∀ b vs, H b = some (.lst vs) → ¬ (b = f ∨ b = c') := fun b vs e q => by
    rcases q with q | q
    · rw [q, f0] at e; cases e
    · have := upL b vs e
      rw [q, c1] at this
      obtain ⟨φ, rfl⟩ := xC
      cases this
  refine ⟨_, le, ⟨fun a u e => ?_, fun i ds e => ?_, fun i ds e => ?_, s.inj, fun a u e => ?_, fun a u e => ?_, s.frM, T1, fun b ps e => ?_, s.tab.frL⟩, ?_, ?_⟩
  · by_cases q : a = f ∨ a = c'
    · simp only [if_pos q] at e; exact e
    · simp only [if_neg q] at e; exact up a u e
  · obtain ⟨vs, h1, h2, z⟩ := s.cell i ds e
    exact ⟨vs, upL _ _ h1, h2.mono le, z⟩
  · obtain ⟨vs, h1, _⟩ := s.cell i ds e
    simp only [if_neg (nl _ _ h1)]; exact s.out i ds e
  · obtain ⟨vs, rfl⟩ := s.tab.frL a u e
    exact upL a vs (s.frm a _ e)
  · obtain ⟨vs, rfl⟩ := s.tab.frL a u e
    simp only [if_neg (nl _ _ (s.frm a _ e))]; exact s.frG a _ e
  · by_cases q : b = f ∨ b = c'
    · simp only [if_pos q] at e
      rcases q with q | q
      · rw [q, f1] at e; obtain ⟨φ, rfl⟩ := xF; cases e
      · rw [q, c1] at e; obtain ⟨φ, rfl⟩ := xC; cases e
    · simp only [if_neg q] at e; exact s.tab.nt b ps e
  · simp only [true_or, if_true]; exact f1
  · simp only [or_true, if_true]; exact c1
end
/-- the end of a call that had the cells told -/
theorem ce_drop {outer : List Env} {P : Program} {w : World} {H : Hp} {s s' : Shared} {Q Q' : VK} {u : Value} {p : Addr → Prop} (n : ∀ b, p b → H b = none) (h : CE outer P w (addC H p s.heap) s Q' u s')
    (q : ∀ v H'', HOk P w H'' s'.heap → Q' v H'' → (∀ b o, p b → s.heap.get? b = some o → H'' b = some (CelO b o)) ∧ Cel p H'' ∧ Q v (dropC H'' p)) : CE outer P w H s Q u s' := by
  obtain ⟨v, H'', os, bare, un, hok, r, q'⟩ := h
  obtain ⟨q1, q2, q3⟩ := q v H'' hok q'
  have np : ∀ b o, H b = some o → ¬ p b := fun b o e z => by rw [n b z] at e; cases e
  have hn : ∀ b, H b = none → ¬ p b → addC H p s.heap b = none := fun b e z => by rw [addC_of z]; exact e
  refine ⟨v, dropC H'' p, os, bare, ⟨fun b o e e0 hb hx => ?_, fun b o e e0 hb hx => ?_, fun b o e e0 hx => ?_, un.there, fun b xs e => ?_, fun b o u e => ?_, fun b ps e => ?_⟩, hok_drop hok q2, r, q3⟩
  · by_cases z : p b
    · exact celO_at hok (q1 b o z e)
    · exact un.keep b o e (hn b e0 z) hb hx
  · by_cases z : p b
    · exact ⟨o.slots, celO_at hok (q1 b o z e)⟩
    · exact un.slot b o e (hn b e0 z) hb hx
  · by_cases z : p b
    · exact dropC_in z
    · exact dropC_none (un.free b o e (hn b e0 z) hx)
  · have z := np b _ e
    rw [dropC_of z]
    exact un.tups b xs (by rw [addC_of z]; exact e)
  · have z := np b _ e
    rw [dropC_of z]
    exact un.frzs b o u (by rw [addC_of z]; exact e)
  · have z := np b _ e
    rw [dropC_of z]
    exact un.tbls b ps (by rw [addC_of z]; exact e)
/-- the end of a made function's call, the cells told again -/
theorem ce_mix {outer : List Env} {P : Program} {w : World} {H : Hp} {s s' : Shared} {Q Q' : VK} {u : Value} {p : Addr → Prop} (x : HOk P w H s.heap) (n : Cel p H) (fr : ∀ b ∈ frs outer, H b = none) (h : CE outer P w (dropC H p) s Q' u s')
    (q : ∀ v H'', (∀ b, p b → H'' b = none) → Q' v H'' → Q v (mixC H p H'')) : CE outer P w H s Q u s' := by
  obtain ⟨v, H'', os, bare, un, hok, r, q'⟩ := h
  have np : ∀ b, H b = none → ¬ p b := fun b e z => by obtain ⟨o, v, h1, _⟩ := n b z; rw [h1] at e; cases e
  have nx : ∀ b o, H b = some o → (∀ φ, o ≠ .ext φ) → ¬ p b := fun b o e hx z => by obtain ⟨o', v, h1, _⟩ := n b z; rw [h1] at e; exact hx _ (Option.some.inj e).symm
  have fre : ∀ b, p b → H'' b = none := fun b z => by
    obtain ⟨o, v, h1, _⟩ := n b z
    exact un.free b o (celO_at x h1) (dropC_in z) (by simp)
  have stay : ∀ b o, p b → H b = some (CelO b o) → s'.heap.get? b = some o := fun b o z e => un.keep b o (celO_at x e) (dropC_in z) (fun hb => by rw [fr b hb] at e; cases e) (by simp)
  refine ⟨v, mixC H p H'', os, bare, ⟨fun b o e e0 hb hx => un.keep b o e (dropC_none e0) hb hx, fun b o e e0 hb hx => un.slot b o e (dropC_none e0) hb hx, fun b o e e0 hx => ?_, un.there, fun b xs e => ?_, fun b o u e => ?_, fun b ps e => ?_⟩, fun b u e => ?_, r, q v H'' fre q'⟩
  · rw [mixC_of (np b e0)]; exact un.free b o e (dropC_none e0) hx
  · have z := nx b _ e (fun φ q => by cases q)
    rw [mixC_of z]; exact un.tups b xs (by rw [dropC_of z]; exact e)
  · have z := nx b _ e (fun φ q => by cases q)
    rw [mixC_of z]; exact un.frzs b o u (by rw [dropC_of z]; exact e)
  · have z := nx b _ e (fun φ q => by cases q)
    obtain ⟨more, h2⟩ := un.tbls b ps (by rw [dropC_of z]; exact e)
    exact ⟨more, by rw [mixC_of z]; exact h2⟩
  · by_cases z : p b
    · rw [mixC_in z] at e
      obtain ⟨o, v, h1, _⟩ := n b z
      rw [h1] at e
      cases e
      exact celO_ok (stay b o z h1)
    · rw [mixC_of z] at e
      have up : ∀ c o, H'' c = some o → mixC H p H'' c = some o := fun c o e2 => by rw [mixC_of (fun z2 => by rw [fre c z2] at e2; cases e2)]; exact e2
      exact (hok b u e).stay (fun c v _ q => q) (fun c q => up c _ q) fun c xs q => up c _ q
end Mu

namespace Mu
open PySem PySem.Spec PyProof.Rows L2 LamX NdefX
variable {S : ST} {O : OF} {c : Sc} {C : Cons} {k : Nat} {F : Calls}

/-! ### functions are made -/
section
variable {X : Cx} {pins : List (Addr × Obj)} {σ : L2.St} {H : Hp} {s : Shared}
theorem cloO_ne {f : Addr} {cf : CF} (ps : Array Value) : CloO f cf ≠ .tbl ps := fun z => by
  unfold CloO at z
  cases z
theorem inv_clo {cf : CF} {o : Obj} {t' : Nat} {doc pm ctv : Value} (I : Inv X pins σ H s) (ho : o = { cls := .type "function", data := .func (cf.fd doc pm ctv) }) :
    Inv X pins σ (upd H s.heap.objs.size (CloO s.heap.objs.size cf)) { s with heap := s.heap.push o, toks := t' } := by
  subst ho
  refine I.laid (a := s.heap.objs.size) (fun b u e => Heap.get?_push_of_some _ e) (Nat.le_refl _) ?_
  have e : (s.heap.push ({ cls := .type "function", data := .func (cf.fd doc pm ctv) } : Obj)).get? s.heap.objs.size = some ({ cls := .type "function", data := .func (cf.fd doc pm ctv) } : Obj) := Heap.get?_push_size _ rfl
  exact ⟨⟨_, _, doc, pm, ctv, e⟩, ⟨_, e⟩, fun h1 h2 ⟨od, sl, d, p, t, z⟩ st => ⟨od, sl, d, p, t, st _ z⟩⟩
/-- the lambda's object is made: its code object is new, or found in the table -/
theorem lam_makeN {T : List NTab} {nm : Nat → Nat → Str} {c P : Addr} {params : Arguments} {body : Expr} {scope : Scope} {pos : Pos} {E : Value → Shared → Prop} {Q : Value → Shared → Prop} (I : Inv X pins σ H s) (TB : TabB X.base X.mg c P) (hcode : X.env.code = .ref c)
    (hm : (P, nm) ∈ T) (hn : nm pos.line pos.col = X.env.qual ++ "<lambda>") (hu : ∀ p ∈ T, p.1 = P → p.2 = nm) (hT : TabsN T H) (hfree : ∀ y ∈ scope.names, y.2 = .free → ∃ c, X.env.cells.lookup y.1 = some c) (hdef : defaultsOf params X.env = ([], []))
    (h : ∀ (f c' : Addr) (H1 : Hp) (s' : Shared), Inv X pins σ H1 s' → ExtN H H1 → TabsN T H1 → H f = none → H1 f = some (CloO f ⟨"<lambda>", X.env.qual ++ "<lambda>", ⟨params, .expr body, scope⟩, cloFrom X.env.cells scope.names [], c'⟩) → H1 c' = some (CodeO c' (X.env.qual ++ "<lambda>")) → Q (.ref f) s') :
    wpAny (model X.prog X.w) X.A (eval (.Lambda params body scope pos) X.env) Q E s := by
  obtain ⟨ps, hP, ht, ha⟩ := (show TabN H P nm from hT _ hm)
  refine PySem.W.kla_eval hdef ?_
  have bP : s.heap.BuiltinsAt X.mg P := TB.bm.keeps I.bk
  have hP' : s.heap.get? P = some { cls := .none, data := .fields ps } := I.hok P _ hP
  cases hc : codeAmong pos ps.toList with
  | none =>
    refine PySem.W.kla_makeFunction (mg := X.mg) (c := c) (P := P) (ps := ps) (closure_ok hfree) I.ok.glob (I.mod.glob.keeps I.bk) hcode (TB.code.keeps I.bk) hP' ht hc TB.gP bP fun c' ctv h' tk hx hge hlt hrec htb => ?_
    obtain ⟨c2, oc, vs, t, e2, hoc, hd, hv⟩ := hrec
    cases e2
    have nC : H c' = none := I.hok.fresh hge
    have I1 := inv_table (t' := tk) (more := #[rawInt pos.line, rawInt pos.col, .ref c']) (h' := h') I hP (fun b o hb e => hx b o hb e) htb hge ⟨oc, vs, t, hoc, hd, hv⟩
    have hE : ExtN H (upd (upd H P (.tbl (ps ++ #[rawInt pos.line, rawInt pos.col, .ref c']))) c' (CodeO c' (X.env.qual ++ "<lambda>"))) := fun b o e n => by
      rw [upd_ne (ne_of_none e nC), upd_ne (fun z => n ps (Option.some.inj (e.symm.trans (by rw [z]; exact hP))))]
      exact e
    have eL : (ps ++ #[rawInt pos.line, rawInt pos.col, .ref c']).toList = ps.toList ++ [rawInt pos.line, rawInt pos.col, .ref c'] := by simp
    have T1 : TabsN T (upd (upd H P (.tbl (ps ++ #[rawInt pos.line, rawInt pos.col, .ref c']))) c' (CodeO c' (X.env.qual ++ "<lambda>"))) := fun p hp => by
      by_cases hb : p.1 = P
      · rw [hu p hp hb, hb]
        refine ⟨_, by rw [upd_ne (ne_of_none hP nC), upd_same], by rw [eL]; exact PySem.TriplesOk_snoc _ _ _ _ ht, fun p' cv hcv => ?_⟩
        rw [eL] at hcv
        rcases among_app2 _ ht hcv with z | ⟨z, z1, z2⟩
        · obtain ⟨c0, e1, e2⟩ := ha p' cv z
          exact ⟨c0, e1, hE _ _ e2 codeO_ne⟩
        · refine ⟨c', z, ?_⟩
          rw [← z1, ← z2, hn]
          exact upd_same
      · obtain ⟨ps', a1, a2, a3⟩ := hT p hp
        refine ⟨ps', by rw [upd_ne (ne_of_none a1 nC), upd_ne hb]; exact a1, a2, fun p' cv hcv => ?_⟩
        obtain ⟨c0, e1, e2⟩ := a3 p' cv hcv
        exact ⟨c0, e1, hE _ _ e2 codeO_ne⟩
    have nF := I1.hok.fresh (Nat.le_refl _)
    have I2 := inv_clo (cf := ⟨"<lambda>", X.env.qual ++ "<lambda>", ⟨params, .expr body, scope⟩, cloFrom X.env.cells scope.names [], c'⟩) (t' := tk) (doc := .none) (pm := (X.mg "__name__").getD .none) (ctv := ctv) I1 rfl
    refine h h'.objs.size c' _ _ I2 (fun b o e n => ?_) (T1.ext fun b o e => ?_) (I.hok.fresh (Nat.le_trans hge (Nat.le_of_lt hlt))) upd_same ?_
    · have e1 := hE b o e n
      exact (upd_ne (ne_of_none e1 nF)).trans e1
    · exact (upd_ne (ne_of_none e nF)).trans e
    · exact (upd_ne (Nat.ne_of_lt hlt)).trans upd_same
  | some cv =>
    obtain ⟨c', e, hco⟩ := ha pos cv hc
    subst e
    rw [hn] at hco
    refine PySem.W.kla_makeFunctionHit (mg := X.mg) (c := c) (P := P) (ps := ps) (closure_ok hfree) I.ok.glob (I.mod.glob.keeps I.bk) hcode (TB.code.keeps I.bk) hP' ht hc bP fun ctv h' tk hx hsz => ?_
    have I1 : Inv X pins σ H { s with heap := h', toks := tk } := I.kept hx
    have nF : H h'.objs.size = none := I1.hok.fresh (Nat.le_refl _)
    have I2 := inv_clo (cf := ⟨"<lambda>", X.env.qual ++ "<lambda>", ⟨params, .expr body, scope⟩, cloFrom X.env.cells scope.names [], c'⟩) (t' := tk) (doc := .none) (pm := (X.mg "__name__").getD .none) (ctv := ctv) I1 rfl
    refine h h'.objs.size c' _ _ I2 (fun b o e n => ?_) (hT.ext fun b o e => ?_) nF upd_same ?_
    · exact (upd_ne (ne_of_none e nF)).trans e
    · exact (upd_ne (ne_of_none e nF)).trans e
    · exact (upd_ne (ne_of_none hco nF)).trans hco
end
section
variable {X : Cx}
theorem ckCap_of {sc scope : Scope} {js : List Nat} {fr : List Str} (h : ckCap c sc scope js fr = true) : js.map (fun i => c.N[i]?) = fr.map some ∧ (∀ y ∈ fr, sc.names.lookup y = some .cell ∧ (y, NameKind.free) ∈ scope.names) ∧ (∀ y ∈ scope.names, y.2 = .free → y.1 ∈ fr) ∧ fr.Nodup := by
  simp only [ckCap, Bool.and_eq_true, decide_eq_true_eq, List.all_eq_true, Bool.or_eq_true, Bool.not_eq_true', decide_eq_false_iff_not] at h
  obtain ⟨⟨⟨h1, h2⟩, h3⟩, h4⟩ := h
  exact ⟨h1, h2, fun y hy e => (h3 y hy).elim (fun z => absurd e z) id, h4⟩
theorem plainPs_of {ps : Arguments} (h : plainPs ps = true) (env : Env) : defaultsOf ps env = ([], []) ∧ ps.defaults = [] ∧ ps.kw_defaults = [] ∧ annTrees ps none env = [] := by
  obtain ⟨po, as, va, ko, kd, kw, ds⟩ := ps
  unfold plainPs at h
  split at h
  · rename_i as' e
    cases e
    refine ⟨rfl, rfl, rfl, ?_⟩
    have key : ∀ l : List Arg, (l.all fun a => a.annotation.isNone) = true → annotationsOf l env = [] := by
      intro l
      induction l with
      | nil => intro _; rfl
      | cons a l ih =>
        intro h
        rw [List.all_cons, Bool.and_eq_true] at h
        obtain ⟨n, an, p⟩ := a
        cases an with
        | none =>
          have := ih h.2
          first
            | exact this
            | simp [annotationsOf, this]
            | (unfold annotationsOf; exact this)
        | some _ => cases h.1
    show annotationsOf (as ++ [] ++ Option.toList none ++ [] ++ Option.toList none) env ++ _ = []
    have e2 : as ++ [] ++ (Option.toList (none : Option Arg)) ++ [] ++ (Option.toList (none : Option Arg)) = as := by simp
    rw [e2, key as h]
    rfl
  · cases h
theorem own_of (g : Good X S O c C k F) (t : TopOk X c S O) {scope : Scope} {params : Arguments} {body : FuncBody} {j : Nat} {js : List Nat} {name qual : Str} {c' : Addr} (hk : c.m.chk j ⟨params, body, scope⟩ = true) (hc : ckCap c X.env.scope scope js (c.m.fr j) = true) :
    O j js ⟨name, qual, ⟨params, body, scope⟩, cloFrom X.env.cells scope.names [], c'⟩ := by
  obtain ⟨h1, h2, h3, h4⟩ := ckCap_of hc
  rw [g.fr] at h1 h2 h3 h4
  rw [t.own]
  exact ⟨g.chk _ _ hk, rfl, by rw [g.N]; exact h1, h4, h2, h3⟩
theorem snd_lam (g : Good X S O c C k F) (t : TopOk X c S O) {params : Arguments} {body : Expr} {scope : Scope} {pos : Pos} {j : Nat} {js : List Nat} (hk : c.m.chk j ⟨params, .expr body, scope⟩ = true) (hc : ckCap c X.env.scope scope js (c.m.fr j) = true)
    (hq : c.m.nm pos.line pos.col = c.m.q ++ ("<lambda>" : Str)) (hp : plainPs params = true) : PE X (.Lambda params body scope pos) (tv X.K S O (evE C F (.lam j js))) := by
  obtain ⟨cc, P, hcode, TB, hm, hu⟩ := t.code
  obtain ⟨h1, h2, h3, h4⟩ := ckCap_of hc
  refine ⟨fun pins s σ H Q I h => ?_⟩
  obtain ⟨Fr, M, G, ρ, μ, r, μ', ss, rr, e, q⟩ := h
  simp only [evE] at e
  cases e
  refine lam_makeN I TB hcode hm (by rw [hq, t.q]) hu ss.tab.tab (fun y hy e => I.ok.has _ (.inl ?_)) (plainPs_of hp _).1 fun f c' H1 s' I1 eN T1 f0 f1 c1 => ?_
  · exact (h2 _ (h3 y hy e)).1
  · obtain ⟨G1, l1, s1, gf, gc⟩ := ss.made eN T1 f0 f1 c1 ⟨_, rfl⟩ ⟨_, rfl⟩
    exact ⟨.ref f, H1, I1, rfl, q _ H1 G1 l1 s1 rfl (.o gf gc (own_of g t hk hc))⟩

/-! ### a call that hands on functions made here -/
theorem clo_rcs {pins : List (Addr × Obj)} {σ : L2.St} {H G : Hp} {s : Shared} {ρ : Rho} {M : Nat → Addr} {scope : Scope} (I : Inv X pins σ H s) (sub : Le G H) (rr : RR X.K S O M G ρ σ) (hfree : ∀ y ∈ scope.names, y.2 = .free → ∃ c, X.env.cells.lookup y.1 = some c) :
    ∀ (js : List Nat) (fr : List Str) (env : List Val), js.map (fun i => X.N[i]?) = fr.map some → (∀ y ∈ fr, X.env.scope.names.lookup y = some .cell ∧ (y, NameKind.free) ∈ scope.names) → envOf ρ js = some env →
      RCs X.K S (addC G (cellOf X.env.cells) s.heap) (cloFrom X.env.cells scope.names []) fr env
  | [], [], env, _, _, e => by cases e; exact .nil
  | [], _ :: _, _, h, _, _ => by cases h
  | _ :: _, [], _, h, _, _ => by cases h
  | i :: js, y :: fr, env, h, hk, e => by
    obtain ⟨hi, hr⟩ := List.cons.inj h
    have hi : X.N[i]? = some y := hi
    obtain ⟨kc, fy⟩ := hk y List.mem_cons_self
    have rest := clo_rcs I sub rr hfree js fr
    have np : ∀ b o, G b = some o → ¬ cellOf X.env.cells b := fun b o e ⟨z, q⟩ => by have := I.freeC z b q; rw [sub b o e] at this; cases this
    have lg : Le G (dropC (addC G (cellOf X.env.cells) s.heap) (cellOf (cloFrom X.env.cells scope.names []))) := fun b o e => by
      have n := np b o e
      rw [dropC_of (fun ⟨z, q⟩ => n ⟨z, clo_cm hfree q⟩), addC_of n]
      exact e
    have at_ : ∀ (w : Val), ρ[i]? = some (some w) → ∃ (v : V) (a : Addr) (o : Obj) (u : Value), RV X.K S O M G v w ∧ RelV v u ∧ X.env.cells.lookup y = some a ∧ s.heap.get? a = some o ∧ o.data = .cell (some u) := fun w q => by
      obtain ⟨v, hs, rv⟩ := rr.at_ i w q
      obtain ⟨m, hn, hl⟩ := I.loc
      obtain ⟨u, ru, l⟩ := hl i y v hi hs (.inr (.inl kc))
      rcases l with ⟨z, _⟩ | ⟨_, a, ha, o, ho, hd⟩
      · have z' : X.env.scope.names.lookup y = some .local := z
        rw [kc] at z'; cases z'
      · exact ⟨v, a, o, u, rv, ru, ha, ho, hd⟩
    unfold envOf at e
    split at e
    · rename_i x q
      obtain ⟨env', e1, rfl⟩ := Option.map_eq_some_iff.mp e
      obtain ⟨v, a, o, u, rv, ru, ha, ho, hd⟩ := at_ _ q
      cases rv with
      | d rv => exact .cons (clo_has hfree fy ha) (addC_in ⟨y, ha⟩ ho) hd ru (.d (rv.mono lg)) (rest env' hr (fun z hz => hk z (List.mem_cons_of_mem _ hz)) e1)
    · rename_i j en q
      obtain ⟨env', e1, rfl⟩ := Option.map_eq_some_iff.mp e
      obtain ⟨v, a, o, u, rv, ru, ha, ho, hd⟩ := at_ _ q
      cases rv with
      | c rv => exact .cons (clo_has hfree fy ha) (addC_in ⟨y, ha⟩ ho) hd ru (rv.mono lg) (rest env' hr (fun z hz => hk z (List.mem_cons_of_mem _ hz)) e1)
    · cases e
theorem clo_rv {pins : List (Addr × Obj)} {σ : L2.St} {H G : Hp} {s : Shared} {ρ : Rho} {M : Nat → Addr} (t : TopOk X c S O) (I : Inv X pins σ H s) (sub : Le G H) (rr : RR X.K S O M G ρ σ) {v : V} {w w' : Val} (r : RV X.K S O M G v w) (e : cloV ρ w = some w') :
    RV X.K S noO M (addC G (cellOf X.env.cells) s.heap) v w' := by
  have le : Le G (addC G (cellOf X.env.cells) s.heap) := le_addC fun b ⟨z, q⟩ => by
    cases h : G b with
    | none => rfl
    | some o => have := I.freeC z b q; rw [sub b o h] at this; cases this
  cases r with
  | d h => cases e; exact .d (h.mono le)
  | p i => cases e; exact .p i
  | c h => cases e; exact .c (h.mono le)
  | o h hc wo =>
    obtain ⟨env, e1, rfl⟩ := Option.map_eq_some_iff.mp e
    rw [t.own] at wo
    obtain ⟨h1, h2, h3, h4, h5, h6⟩ := wo
    have hfree : ∀ y ∈ CTxt.scope (CF.txt _) |>.names, y.2 = .free → ∃ c, X.env.cells.lookup y.1 = some c := fun y hy e => I.ok.has _ (.inl (h5 _ (h6 y hy e)).1)
    refine .c (.c (le _ _ h) (le _ _ hc) h1 (fun y a ha => ?_) (fun x y a ha hb => ?_) h4 ?_)
    · rw [h2] at ha
      rcases cloFrom_mem (PySem.mem_of_lookup ha) with z | ⟨z, _⟩
      · cases z
      · exact h6 _ z rfl
    · rw [h2] at ha hb
      exact I.ok.inj x y a (clo_cm hfree ha) (clo_cm hfree hb)
    · rw [h2]
      exact clo_rcs I sub rr hfree _ _ _ h3 h5 e1
theorem clo_rvs {pins : List (Addr × Obj)} {σ : L2.St} {H G : Hp} {s : Shared} {ρ : Rho} {M : Nat → Addr} (t : TopOk X c S O) (I : Inv X pins σ H s) (sub : Le G H) (rr : RR X.K S O M G ρ σ) : ∀ {vs : List V} {ws ws' : List Val}, RVs X.K S O M G vs ws → cloVs ρ ws = some ws' →
    RVs X.K S noO M (addC G (cellOf X.env.cells) s.heap) vs ws'
  | _, _, _, .nil, e => by cases e; exact .nil
  | _, _, _, .cons h r, e => by
    simp only [cloVs] at e
    obtain ⟨w, e1, e⟩ := bnd e
    obtain ⟨ws, e2, rfl⟩ := Option.map_eq_some_iff.mp e
    exact .cons (clo_rv t I sub rr h e1) (clo_rvs t I sub rr r e2)
theorem own_cells {pins : List (Addr × Obj)} {σ : L2.St} {H : Hp} {s : Shared} (fn : ∀ x, X.fn x = true) (I : Inv X pins σ H s) : Env0 X.prog X.w X.K X.mg X.base X.A X.stack s (addC H (cellOf X.env.cells) s.heap) := by
  have hn : ∀ b, cellOf X.env.cells b → H b = none := fun b ⟨z, q⟩ => I.freeC z b q
  have e0 := I.env0
  refine ⟨e0.frames, e0.mod, fun b o e => ⟨(e0.bs b o e).1, ?_⟩, e0.bsz, e0.funs, fun b hb => ?_, hok_add e0.hok hn, e0.bare⟩
  · refine (addC_of ?_).trans (e0.bs b o e).2
    intro ⟨z, q⟩
    have h1 := I.ok.cab z b (fn z) q
    have h2 := I.ok.bsz
    exact absurd (Heap.lt_size e) (Nat.not_lt.mpr (Nat.le_trans h2 h1))
  · refine (addC_of ?_).trans (e0.frf b hb)
    intro ⟨z, q⟩
    · obtain ⟨v, o, ho, hd⟩ := I.cell z b q
      rcases List.mem_cons.mp (I.stkSub b hb) with e | e
      · obtain ⟨m, ⟨o', es, ep, ho', hd', _⟩, _⟩ := I.loc
        rw [← e, ho] at ho'
        cases ho'
        rw [hd] at hd'
        cases hd'
      · have h1 := I.ok.cab z b (fn z) q
        obtain ⟨_, o2, h2, _⟩ := I.ok.funs.mem e
        exact absurd (Heap.lt_size h2) (Nat.not_lt.mpr h1)
theorem snd_callC (g : Good X S O c C k F) (t : TopOk X c S O) {ls : List Expr} {es : Es} {f : Nat} {x : Str} {p pos : Pos} (hg : glB X.env.scope x = true) (hf : c.fns[f]? = some x) (hb : f < mB) (ha : PA X ls (tvV X.K S O (evVs C F es))) (pl : ∀ e ∈ ls, plainX e = true) (hl : ls.isEmpty = false) :
    PE X (.Call (.Name x p) ls [] pos) (tv X.K S O (evE C F (.callC f es))) := by
  obtain ⟨h1, h2⟩ := g.gl hg
  refine ⟨fun pins s σ H Q I h => ?_⟩
  obtain ⟨Fr, M, G, ρ, μ, r, μ', ss, rr, e, q⟩ := h
  simp only [evE] at e
  obtain ⟨⟨ws, μ1⟩, e1, e⟩ := bnd e
  obtain ⟨ws', e2, e⟩ := bnd e
  obtain ⟨⟨r0, μ2⟩, e3, e⟩ := bnd e
  dsimp only at e
  split at e
  rotate_left
  · cases e
  rename_i pr
  cases e
  obtain ⟨fa, hm, hk, run⟩ := g.calls.1 f x ws' μ1 r μ' hf hb e3
  have fin : ∀ (us : List Value) (vs : List V) (s1 : Shared) (H1 G1 : Hp), Inv X pins σ H1 s1 → Vals vs us → Le G G1 → SS X.K S Fr M G1 H1 μ1 → μ1.length = μ.length → RVs X.K S O M G1 vs ws →
      wpAny (model X.prog X.w) X.A (call (.ref fa) us) (EP X pins σ Q) X.xe s1 := fun us vs s1 H1 G1 I1 rv l1 s1' n1 r1 => by
    have hn : ∀ b, cellOf X.env.cells b → H1 b = none := fun b ⟨z, q⟩ => I1.freeC z b q
    have cel : ∀ b, cellOf X.env.cells b → ∃ o v, s1.heap.get? b = some o ∧ o.data = .cell v := fun b ⟨z, q⟩ => let ⟨v, o, ho, hd⟩ := I1.cell z b q; ⟨o, v, ho, hd⟩
    obtain ⟨s2, l2⟩ := s1'.addC (h := s1.heap) hn
    have rn := run X.A X.stack s1 _ us vs (fun v H'' => ∃ G'', Le (addC G1 (cellOf X.env.cells) s1.heap) G'' ∧ SS X.K S Fr M G'' H'' μ' ∧ μ'.length = μ1.length ∧ RV X.K S noO M G'' v r) Fr M _ g.room g.grd (own_cells t.fn I1) rv s2 (clo_rvs t I1 s1'.sub (rr.mono l1) r1 e2)
      fun v H2 G2 l s n rv => ⟨G2, l, s, n, rv⟩
    refine wpAny_call (codeAny_mono rn fun res s' hq => ?_)
    cases res with
    | error er => exact False.elim hq
    | ok fl =>
      cases fl with
      | ret u =>
        refine I1.after (ce_drop hn hq fun v H'' hok ⟨G'', l, sg, n2, rv2⟩ => ?_)
        have cg : ∀ b o, cellOf X.env.cells b → s1.heap.get? b = some o → G'' b = some (CelO b o) := fun b o q e => l b _ (addC_in q e)
        have cG : Cel (cellOf X.env.cells) G'' := fun b q => let ⟨o, v, e, d⟩ := cel b q; ⟨o, v, cg b o q e, d⟩
        refine ⟨fun b o q e => sg.sub b _ (cg b o q e), fun b q => let ⟨o, v, e, d⟩ := cG b q; ⟨o, v, sg.sub b _ e, d⟩, ?_⟩
        have lo : Le G1 (dropC G'' (cellOf X.env.cells)) := fun b o e => by
          have nb : ¬ cellOf X.env.cells b := fun q => by have := s1'.sub b o e; rw [hn b q] at this; cases this
          rw [dropC_of nb]
          exact l b o (by rw [addC_of nb]; exact e)
        refine q v _ _ (l1.trans lo) (sg.dropC hok cG) (n2.trans n1) ?_
        cases rv2 with
        | d h => exact .d (h.leD (leD_drop cG))
        | p i => exact .p i
        | c h => cases pr
        | o h hc w => cases pr
      | next => exact False.elim hq
      | brk => exact False.elim hq
      | cont => exact False.elim hq
  refine wpAny_Call_Name_kw (ld_glob I h1 hm ?_ h2)
  cases ls with
  | nil => cases hl
  | cons a ls =>
    have hs : starEach (a :: ls) X.env = (false, eval a X.env) :: starEach ls X.env := star_of (pl a List.mem_cons_self)
    refine PySem.W.callWith_K (h₀ := X.base) I.ok.mod.kin hk (thn (ha.run pos pins s σ H _ I ⟨Fr, M, G, ρ, μ, ws, μ1, ss, rr, e1, fun vs H' G' a b c d => (⟨G', a, b, c, d⟩ : ∃ G', Le G G' ∧ SS X.K S Fr M G' H' μ1 ∧ μ1.length = μ.length ∧ RVs X.K S O M G' vs ws)⟩) fun us s1 hq => ?_) hs (star_any fun e he => pl e (List.mem_cons_of_mem _ he))
    obtain ⟨vs, H1, I1, rv, G1, l1, s1', n1, r1⟩ := hq
    exact ⟨I1.kIn, fin us vs s1 H1 G1 I1 rv l1 s1' n1 r1⟩
theorem cloO_fnAt {pins : List (Addr × Obj)} {σ : L2.St} {H : Hp} {s : Shared} {f : Addr} {cf : CF} (I : Inv X pins σ H s) (e : H f = some (CloO f cf)) : PySem.W.FnAt f s.heap := by
  obtain ⟨⟨od, sl, doc, pm, ctv, ho⟩, _, _⟩ := I.hok f _ e
  exact ⟨_, od, _, sl, ho⟩
/-- a call of a function that was handed on -/
theorem snd_callV (g : Good X S O c C k F) {ls : List Expr} {es : Es} {i : Nat} {x : Str} {p pos : Pos} (hv : visB X.env.scope x = true) (hi : c.N[i]? = some x) (ha : PA X ls (tvV X.K S O (evVs C F es))) (pl : ∀ e ∈ ls, plainX e = true) (hl : ls.isEmpty = false) :
    PE X (.Call (.Name x p) ls [] pos) (tv X.K S O (evE C F (.callV i es))) := by
  simp only [visB, Bool.and_eq_true, Bool.or_eq_true, decide_eq_true_eq, Bool.not_eq_true'] at hv
  refine ⟨fun pins s σ H Q I h => ?_⟩
  obtain ⟨Fr, M, G, ρ, μ, r, μ', ss, rr, e, q⟩ := h
  simp only [evE] at e
  obtain ⟨⟨ws, μ1⟩, e1, e⟩ := bnd e
  dsimp only at e
  split at e
  rotate_left
  · cases e
  rename_i j env hρ
  split at e
  rotate_left
  · cases e
  rename_i plv
  obtain ⟨v0, hσ, rv0⟩ := rr.at_ i _ hρ
  obtain ⟨f, rfl⟩ : ∃ f, v0 = .ref f := by
    cases rv0 with
    | c h => cases h; exact ⟨_, rfl⟩
  have hr0 : RC X.K S G (.ref f) (.c j env) := by
    cases rv0 with
    | c h => exact h
  have hf0 : ∃ cf, G f = some (CloO f cf) := by
    cases hr0 with
    | c h => exact ⟨_, h⟩
  obtain ⟨cf0, hf0⟩ := hf0
  refine wpAny_Call_Name_kw (thn ((pe_var (pos := p) (by rw [g.N]; exact hi) (by unfold L2.Vis; exact or_assoc.mp hv.1.1) hv.1.2 hv.2).run pins s σ H (fun v H1 => v = .ref f ∧ H1 = H) I ⟨.ref f, hσ, rfl, rfl⟩) fun u s1 ⟨v, H1, I1, r1, q1⟩ => ?_)
  obtain ⟨ev, eH⟩ := q1
  subst ev
  rw [eH] at I1
  obtain rfl : u = Value.ref f := r1
  cases ls with
  | nil => cases hl
  | cons a ls =>
    have hs : starEach (a :: ls) X.env = (false, eval a X.env) :: starEach ls X.env := star_of (pl a List.mem_cons_self)
    refine PySem.W.callWith_F (first := []) (cloO_fnAt I1 (ss.sub _ _ hf0)) (thn (ha.run pos pins s1 σ H _ I1 ⟨Fr, M, G, ρ, μ, ws, μ1, ss, rr, e1, fun vs H' G' a b c d => (⟨G', a, b, c, d⟩ : ∃ G', Le G G' ∧ SS X.K S Fr M G' H' μ1 ∧ μ1.length = μ.length ∧ RVs X.K S O M G' vs ws)⟩) fun us s2 hq => ?_) hs (star_any fun e he => pl e (List.mem_cons_of_mem _ he))
    obtain ⟨vs, H2, I2, rv, G2, l2, s2', n2, r2⟩ := hq
    refine ⟨cloO_fnAt I2 (s2'.sub _ _ (l2 _ _ hf0)), ?_⟩
    show wpAny _ _ (call (.ref f) us) _ _ _
    have hr2 := hr0.mono l2
    have no : ws.all notO = true := by
      have := g.calls.args e
      rw [List.all_append, Bool.and_eq_true] at this
      exact this.1
    cases hr2 with
    | c h hc ck ky inj nd cs =>
      have rn := g.calls.2.2.2.1 j _ ws env μ1 r μ' ck plv e X.A X.stack s2 H2 us vs Q Fr M G2 f _ rfl g.room g.grd I2.env0 rv s2' (r2.out no) h hc ky inj nd cs fun v H3 G3 l3 s3 n3 r3 => q v H3 G3 (l2.trans l3) s3 (n3.trans n2) r3.any
      refine wpAny_call (codeAny_mono rn fun res s' hq => ?_)
      cases res with
      | error er => exact False.elim hq
      | ok fl =>
        cases fl with
        | ret u => exact I2.after hq
        | next => exact False.elim hq
        | brk => exact False.elim hq
        | cont => exact False.elim hq
end
end Mu

namespace Mu
open PySem PySem.Spec PyProof.Rows L2 LamX NdefX
variable {S : ST} {O : OF} {c : Sc} {C : Cons} {k : Nat} {F : Calls}

theorem new_lst {X : Cx} {ls : List Expr} {es : Es} {pos : Pos} (h : PA X ls (tvA X.K S O (evEs C F es))) (hl : es.len ≤ 1000) : PE X (.List ls pos) (tvN X.K S O (evE C F (.lst es))) := by
  refine (pe_lst h).wk fun σ H Q q => ?_
  obtain ⟨Fr, M, G, ρ, μ, ds, μ', s, rr, e, q⟩ := q
  simp only [evE] at e
  obtain ⟨⟨xs, μ1⟩, e1, e⟩ := bnd e
  cases e
  have hz : xs.length ≤ sizeLine := small_line (by rw [evEs_len e1]; exact hl)
  refine ⟨Fr, M, G, ρ, μ, xs, μ1, s, rr, e1, fun vs H1 G1 l1 s1 n1 r1 => ⟨by rw [r1.length]; exact hz, fun p hp => ?_⟩⟩
  refine q p vs _ G1 l1 (s1.new' hp) n1 upd_same (s1.free hp) (s1.frFree hp) (fun i ds e z => ?_) r1 hz
  obtain ⟨ws, h1, _⟩ := s1.cell i ds e
  rw [z, hp] at h1; cases h1
theorem cat_list {d1 d2 : D} {ds : List D} (h : bopD .add d1 d2 = some (.list ds)) : ∃ xs ys, d1 = .list xs ∧ d2 = .list ys ∧ ds = xs ++ ys ∧ xs.length + ys.length ≤ sizeLine := by
  unfold bopD at h
  split at h <;> first
    | (split at h <;> first | (cases h; exact ⟨_, _, rfl, rfl, rfl, by assumption⟩) | cases h)
    | cases h
theorem new_cat {X : Cx} {a b : Expr} {ma mb : E} {pos : Pos} (ha : PE X a (tv X.K S O (evE C F ma))) (hb : PE X b (tv X.K S O (evE C F mb))) : PE X (.BinOp a .Add b pos) (tvN X.K S O (evE C F (.bop .add ma mb))) := by
  refine (pe_op cat_lsx ha hb).wk fun σ H Q q => ?_
  obtain ⟨Fr, M, G, ρ, μ, ds, μ', s, rr, e, q⟩ := q
  simp only [evE] at e
  obtain ⟨⟨v, μ1⟩, e1, e⟩ := bnd e
  obtain ⟨⟨w, μ2⟩, e2, e⟩ := bnd e
  obtain ⟨d1, d2, z, g1, g2, g3, hz, rfl⟩ := rd2_some e
  cases hz
  obtain ⟨xs, ys, rfl, rfl, rfl, hz⟩ := cat_list g3
  refine tv_go s rr e1 fun x H1 G1 l1 s1 n1 r1 => tv_go s1 (rr.mono l1) e2 fun y H2 G2 l2 s2 n2 r2 => ?_
  obtain ⟨p, vs, rfl, h1, q1, z1⟩ := s2.rdL (r1.mono l2) g1
  obtain ⟨p', ws, rfl, h2, q2, z2⟩ := s2.rdL r2 g2
  have k1 := q1.length
  have k2 := q2.length
  refine ⟨p, p', vs, ws, rfl, rfl, h1, h2, by omega, fun t ht => ?_⟩
  refine q t (vs ++ ws) _ G2 (l1.trans l2) (s2.new' ht) (n2.trans n1) upd_same (s2.free ht) (s2.frFree ht) (fun i es hi => ?_) (q1.append q2) (by rw [List.length_append]; exact hz)
  obtain ⟨us, hc, _⟩ := s2.cell i es hi
  exact ne_of_none hc ht
theorem new_rep {X : Cx} {ls : List Expr} {es : Es} {p1 pos : Pos} {b : Expr} {m : E} (h : PA X ls (tvA X.K S O (evEs C F es))) (hl : es.len ≤ 1000) (hb : PE X b (tv X.K S O (evE C F m))) : PE X (.BinOp (.List ls p1) .Mult b pos) (tvN X.K S O (evE C F (.rep es m))) := by
  refine (pe_op op_rep (pe_lst h) hb).wk fun σ H Q q => ?_
  obtain ⟨Fr, M, G, ρ, μ, ds, μ', s, rr, e, q⟩ := q
  simp only [evE] at e
  obtain ⟨⟨xs, μ1⟩, e1, e⟩ := bnd e
  obtain ⟨⟨n, μ2⟩, e2, e⟩ := bnd e
  have e2 := toI_some e2
  split at e
  · rename_i hc
    cases e
    have hz : xs.length ≤ sizeLine := small_line (by rw [evEs_len e1]; exact hl)
    refine ⟨Fr, M, G, ρ, μ, xs, μ1, s, rr, e1, fun vs H1 G1 l1 s1 n1 r1 => ⟨by rw [r1.length]; exact hz, fun p hp => ?_⟩⟩
    obtain ⟨s2, l2⟩ := s1.new (o := .lst vs) hp
    refine tv_go s2 (rr.mono (l1.trans l2)) e2 fun y H3 G3 l3 s3 n3 r3 => ?_
    cases r3 with
    | d r3 =>
      cases r3
      refine ⟨p, n, vs, rfl, rfl, s3.sub p _ (l3 p _ upd_same), hc.1, hc.2.1, by rw [r1.length]; exact hc.2.2, fun p2 hp2 => ?_⟩
      refine q p2 _ _ G3 (l1.trans (l2.trans l3)) (s3.new' hp2) (n3.trans n1) upd_same (s3.free hp2) (s3.frFree hp2) (fun i ds e z => ?_) ((r1.mono (l2.trans l3)).rep n.toNat) (by rw [len_rep]; exact hc.2.2)
      obtain ⟨ws, h1, _⟩ := s3.cell i ds e
      rw [z, hp2] at h1; cases h1
  · cases e
theorem new_list {X : Cx} (g : Good X S O c C k F) {a : Expr} {ma : E} {p pos : Pos} (hg : glB X.env.scope ("list" : Str) = true) (ha : PE X a (tv X.K S O (evE C F ma))) (pa : plainX a = true) : PE X (.Call (.Name "list" p) [a] [] pos) (tvN X.K S O (evE C F (.bi .lst ma))) := by
  obtain ⟨h1, h2⟩ := g.gl hg
  have hs : starEach (a :: []) X.env = (false, eval a X.env) :: starEach [] X.env := star_of pa
  refine (pe_callTy call_list_of h1 (blt_of g "list" (by decide)) (by decide +kernel) (pa_cons ha pa_nil hs) (by decide) h2 hs rfl).wk fun σ H Q q => ?_
  obtain ⟨Fr, M, G, ρ, μ, ds, μ', s, rr, e, q⟩ := q
  simp only [evE] at e
  obtain ⟨⟨v, μ1⟩, e1, e⟩ := bnd e
  obtain ⟨x, z, g1, g2, gz, rfl⟩ := rd1_some e
  cases gz
  refine tv_go s rr e1 fun y H1 G1 l1 s1 n1 r1 => ?_
  have fin : ∀ vs, RpA X.K G1 vs ds → ds.length ≤ sizeLine → ∀ l, H1 l = none → Q (.ref l) (upd H1 l (.lst vs)) := fun vs r z l hl => by
    refine q l vs _ G1 l1 (s1.new' hl) n1 upd_same (s1.free hl) (s1.frFree hl) (fun i ds e z => ?_) r z
    obtain ⟨ws, h1, _⟩ := s1.cell i ds e
    rw [z, hl] at h1; cases h1
  cases x with
  | list xs =>
    simp only [biD, Option.some.injEq, PyData.list.injEq] at g2
    subst g2
    obtain ⟨a, vs, rfl, h1, h2, z⟩ := s1.rdL r1 g1
    exact ⟨a, vs, rfl, .inl h1.sql, fin vs h2 z⟩
  | tuple xs =>
    simp only [biD, Option.some.injEq, PyData.list.injEq] at g2
    subst g2
    obtain ⟨a, vs, rfl, h1, h2, z⟩ := s1.rdT r1 g1
    exact ⟨a, vs, rfl, .inr h1, fin vs h2 z⟩
  | _ => simp [biD] at g2
theorem comp_list {own : List Nat} {tg : Tg} {it : It} {cs : Es} {elt : E} (ρ : Rho) (μ : Store) (r : Val) (μ' : Store) (h : evE C F (.comp own tg it cs elt) ρ μ = some (r, μ')) : ∃ ds, r = .d (.list ds) := by
  simp only [evE] at h
  obtain ⟨⟨⟨xs, v⟩, μ1⟩, e1, h⟩ := bnd h
  obtain ⟨⟨ys, μ5⟩, e2, h⟩ := bnd h
  cases h
  exact ⟨_, rfl⟩
theorem comp2_list {own : List Nat} {tg tg1 : Tg} {it it1 : It} {cs : Es} {elt : E} (ρ : Rho) (μ : Store) (r : Val) (μ' : Store) (h : evE C F (.comp2 own tg it tg1 it1 cs elt) ρ μ = some (r, μ')) : ∃ ds, r = .d (.list ds) := by
  simp only [evE] at h
  obtain ⟨⟨⟨xs, v⟩, μ1⟩, e1, h⟩ := bnd h
  obtain ⟨⟨ys, μ5⟩, e2, h⟩ := bnd h
  split at h
  · cases h; exact ⟨_, rfl⟩
  · cases h
theorem vacE {X : Cx} {e : Expr} {f : Rho → Store → Option (Val × Store)} (h : ∀ ρ μ, f ρ μ = none) : PE X e (tv X.K S O f) := ⟨fun _ _ _ _ _ _ q => by
  obtain ⟨Fr, M, G, ρ, μ, r, μ', s, rr, e, q⟩ := q
  rw [h] at e; cases e⟩
theorem vacW {X : Cx} {e : Expr} {f : Rho → Store → Option (Bool × Store)} (h : ∀ ρ μ, f ρ μ = none) : PW X e (tvT X.K S O f) := ⟨fun _ _ _ _ _ _ _ q => by
  obtain ⟨Fr, M, G, ρ, μ, r, μ', s, rr, e, q⟩ := q
  rw [h] at e; cases e⟩
theorem vacTs {X : Cx} {e : List Expr} {f : Rho → Store → Option (Bool × Store)} (h : ∀ ρ μ, f ρ μ = none) : PTs X e (tvT X.K S O f) := ⟨fun _ _ _ _ _ _ q => by
  obtain ⟨Fr, M, G, ρ, μ, r, μ', s, rr, e, q⟩ := q
  rw [h] at e; cases e⟩
theorem ff {p : Prop} (h : false = true) : p := absurd h Bool.false_ne_true

theorem ckI_plain {sc : Scope} {it : It} {tg e : Expr} (h : ckI c sc it tg e = true) : plainX e = true := by
  cases it with
  | seq m => exact ck_plain (by simpa only [ckI] using h)
  | rng m =>
    cases e <;> first | rfl | exact ff h
  | rng2 m m' =>
    cases e <;> first | rfl | exact ff h
  | rng3 m m' m'' =>
    cases e <;> first | rfl | exact ff h
  | zip m m' =>
    cases tg <;> cases e <;> first | rfl | exact ff h
  | enu m =>
    cases tg <;> cases e <;> first | rfl | exact ff h
mutual
theorem soundE : ∀ (m : E) (c : Sc) (X : Cx) (g : Good X S O c C k F) (e : Expr), ckE c X.env.scope m e = true → PE X e (tv X.K S O (evE C F m)) ∧ (tOk m = true → PT X e (tvT X.K S O fun ρ μ => toT (evE C F m ρ μ)))
  | .var i, c, X, g, e, h => by
    cases e with
    | Name x pos =>
      simp only [ckE, Bool.and_eq_true, decide_eq_true_eq] at h
      have p := snd_var g (pos := pos) h.1 h.2
      exact ⟨p, fun _ => pt_tv p rfl⟩
    | _ => exact ff h
  | .non, c, X, g, e, h => by
    cases e with
    | Constant v j pos =>
      cases v with
      | none =>
        have p : PE X (.Constant .none j pos) (tv X.K S O (evE C F .non)) := PE.wk pe_non (tv_c (fun _ _ => by simp only [evE]) fun _ => .non)
        exact ⟨p, fun _ => pt_tv p rfl⟩
      | _ => exact ff h
    | _ => exact ff h
  | .bl b, c, X, g, e, h => by
    cases e with
    | Constant v j pos =>
      cases v with
      | bool b' =>
        simp only [ckE, decide_eq_true_eq] at h
        subst h
        have p : PE X (.Constant (.bool b) j pos) (tv X.K S O (evE C F (.bl b))) := PE.wk pe_bl (tv_c (fun _ _ => by simp only [evE]) fun _ => .bl b)
        exact ⟨p, fun _ => pt_tv p rfl⟩
      | _ => exact ff h
    | _ => exact ff h
  | .int b, c, X, g, e, h => by
    cases e with
    | Constant v j pos =>
      cases v with
      | int b' =>
        simp only [ckE, decide_eq_true_eq] at h
        subst h
        have p : PE X (.Constant (.int b) j pos) (tv X.K S O (evE C F (.int b))) := PE.wk pe_int (tv_c (fun _ _ => by simp only [evE]) fun _ => .int b)
        exact ⟨p, fun _ => pt_tv p rfl⟩
      | _ => exact ff h
    | _ => exact ff h
  | .str b, c, X, g, e, h => by
    cases e with
    | Constant v j pos =>
      cases v with
      | str b' =>
        simp only [ckE, decide_eq_true_eq] at h
        subst h
        have p : PE X (.Constant (.str (b : Str)) j pos) (tv X.K S O (evE C F (.str b))) := PE.wk pe_str (tv_c (fun _ _ => by simp only [evE]) fun _ => .str _)
        exact ⟨p, fun _ => pt_tv p rfl⟩
      | _ => exact ff h
    | _ => exact ff h
  | .con x n, c, X, g, e, h => by
    cases e with
    | Name y pos =>
      simp only [ckE, Bool.and_eq_true, decide_eq_true_eq] at h
      have p := snd_con g (pos := pos) (x := x) h.1.1 h.2
      exact ⟨p, fun _ => pt_tv p rfl⟩
    | _ => exact ff h
  | .tup es, c, X, g, e, h => by
    cases e with
    | Tuple ls j pos =>
      simp only [ckE, Bool.and_eq_true, decide_eq_true_eq] at h
      have p := snd_tup (x := j) (pos := pos) (soundEs es _ X g ls h.1).1 h.2
      exact ⟨p, fun _ => pt_tv p rfl⟩
    | _ => exact ff h
  | .lst es, c, X, g, e, h => by
    cases e with
    | List ls pos =>
      simp only [ckE, Bool.and_eq_true, decide_eq_true_eq] at h
      have p := snd_lst (pos := pos) (soundEs es _ X g ls h.1).1 h.2
      exact ⟨p, fun _ => pt_tv p rfl⟩
    | _ => exact ff h
  | .dct n, c, X, g, e, h => by
    cases e with
    | Dict ks vs pos =>
      have p : PE X (.Dict ks vs pos) (tv X.K S O (evE C F (.dct n))) := by
        simp only [ckE] at h
        unfold ckDct at h
        split at h
        · rename_i e1; cases e1; exact snd_dct0
        · rename_i e1; cases e1; exact snd_dct1
        · exact ff h
      exact ⟨p, fun _ => pt_tv p rfl⟩
    | _ => exact ff h
  | .rep es m, c, X, g, e, h => by
    cases e with
    | BinOp a o b pos =>
      cases a with
      | List ls p1 =>
        cases o with
        | Mult =>
          simp only [ckE, Bool.and_eq_true, decide_eq_true_eq] at h
          have p := snd_rep (p1 := p1) (pos := pos) (soundEs es _ X g ls h.1.1).1 h.1.2 (soundE m _ X g b h.2).1
          exact ⟨p, fun _ => pt_tv p rfl⟩
        | _ => exact ff h
      | _ => exact ff h
    | _ => exact ff h
  | .bop o a b, c, X, g, e, h => by
    cases e with
    | BinOp a' o' b' pos =>
      simp only [ckE, Bool.and_eq_true, decide_eq_true_eq] at h
      obtain ⟨⟨rfl, h1⟩, h2⟩ := h
      have p := snd_bop (pos := pos) (o := o) (soundE a _ X g a' h1).1 (soundE b _ X g b' h2).1
      exact ⟨p, fun _ => pt_tv p rfl⟩
    | _ => exact ff h
  | .neg a, c, X, g, e, h => by
    cases e with
    | UnaryOp o a' pos =>
      cases o with
      | USub =>
        simp only [ckE] at h
        have p := snd_neg (pos := pos) (soundE a _ X g a' h).1
        exact ⟨p, fun _ => PT.wk (pt_truth p fun whole => by rfl) fun σ H Q q => by
          obtain ⟨Fr, M, G, ρ, μ, r, μ', s, rr, e, q⟩ := q
          obtain ⟨⟨v, μ1⟩, e1, e⟩ := bnd e
          obtain ⟨x, e2, e⟩ := bnd e
          obtain ⟨b, e3, e⟩ := Option.map_eq_some_iff.mp e
          cases e
          exact tv_go s rr e1 fun x H1 G1 l1 s1 n1 r1 => ⟨_, truV_of s1 r1 e2 e3, q H1 G1 l1 s1 n1⟩⟩
      | _ => exact ff h
    | _ => exact ff h
  | .inot a, c, X, g, e, h => by
    cases e with
    | UnaryOp o a' pos =>
      cases o with
      | Not =>
        simp only [ckE] at h
        obtain ⟨p, q⟩ := soundE a _ X g a' h
        exact ⟨snd_inot p, fun ht => tst_inot (q ht)⟩
      | _ => exact ff h
    | _ => exact ff h
  | .cmp o a b, c, X, g, e, h => by
    cases e with
    | Compare a' os bs pos =>
      match os, bs, h with
      | [o'], [b'], h =>
        simp only [ckE, Bool.and_eq_true, decide_eq_true_eq] at h
        obtain ⟨⟨rfl, h1⟩, h2⟩ := h
        have pa := (soundE a _ X g a' h1).1
        have pb := (soundE b _ X g b' h2).1
        exact ⟨snd_cmp g pa pb (ck_plain h2), fun _ => tst_cmp g pa pb (ck_plain h2)⟩
      | [], _, h => exact ff h
      | [_], [], h => exact ff h
      | [_], _ :: _ :: _, h => exact ff h
      | _ :: _ :: _, _, h => exact ff h
    | _ => exact ff h
  | .chn o o2 a b d, c, X, g, e, h => by
    cases e with
    | Compare a' os bs pos =>
      match os, bs, h with
      | [o', o2'], [b', d'], h =>
        simp only [ckE, Bool.and_eq_true, decide_eq_true_eq] at h
        obtain ⟨⟨⟨⟨rfl, rfl⟩, h1⟩, h2⟩, h3⟩ := h
        have pa := (soundE a _ X g a' h1).1
        have pb := (soundE b _ X g b' h2).1
        have pd := (soundE d _ X g d' h3).1
        exact ⟨snd_chn g pa pb pd (ck_plain h3), fun _ => tst_chn g pa pb pd (ck_plain h3)⟩
      | [], _, h => exact ff h
      | [_], _, h => exact ff h
      | [_, _], [], h => exact ff h
      | [_, _], [_], h => exact ff h
      | [_, _], _ :: _ :: _ :: _, h => exact ff h
      | _ :: _ :: _ :: _, _, h => exact ff h
    | _ => exact ff h
  | .isN a, c, X, g, e, h => by
    cases e with
    | Compare a' os bs pos =>
      simp only [ckE, Bool.and_eq_true] at h
      obtain ⟨j, p, rfl, rfl⟩ := isNs_of h.1
      have pa := (soundE a _ X g a' h.2).1
      exact ⟨snd_isN pa, fun _ => tst_isN pa⟩
    | _ => exact ff h
  | .isT k n a, c, X, g, e, h => by
    cases e with
    | Compare a' os bs pos =>
      simp only [ckE, Bool.and_eq_true] at h
      obtain ⟨j, p, rfl, rfl⟩ := isBs_of h.1
      have pa := (soundE a _ X g a' h.2).1
      exact ⟨snd_isT pa, fun _ => tst_isT pa⟩
    | _ => exact ff h
  | .notN a, c, X, g, e, h => by
    cases e with
    | Compare a' os bs pos =>
      simp only [ckE, Bool.and_eq_true] at h
      obtain ⟨j, p, rfl, rfl⟩ := isNs_of h.1
      have pa := (soundE a _ X g a' h.2).1
      exact ⟨snd_notN pa, fun _ => tst_notN pa⟩
    | _ => exact ff h
  | .band es, c, X, g, e, h => by
    cases e with
    | BoolOp o ls pos =>
      cases o with
      | And =>
        simp only [ckE, Bool.and_eq_true] at h
        obtain ⟨_, _, _, _, p, q, _⟩ := soundEs es _ X g ls h.1
        refine ⟨((p pos).1).wk fun σ H Q q => ?_, fun _ => ((q h.2 pos).1).pt.wk fun σ H Q q => tvT_map ?_⟩
        · obtain ⟨Fr, M, G, ρ, μ, r, μ', s, rr, e, q⟩ := q
          exact ⟨Fr, M, G, ρ, μ, r, μ', s, rr, by simpa only [evE] using e, q⟩
        · obtain ⟨Fr, M, G, ρ, μ, r, μ', s, rr, e, q⟩ := q
          exact ⟨Fr, M, G, ρ, μ, r, μ', s, rr, by simpa only [evE] using e, q⟩
      | _ => exact ff h
    | _ => exact ff h
  | .bor es, c, X, g, e, h => by
    cases e with
    | BoolOp o ls pos =>
      cases o with
      | Or =>
        simp only [ckE, Bool.and_eq_true] at h
        obtain ⟨_, _, _, _, p, q, _⟩ := soundEs es _ X g ls h.1
        refine ⟨((p pos).2).wk fun σ H Q q => ?_, fun _ => ((q h.2 pos).2).pt.wk fun σ H Q q => tvT_map ?_⟩
        · obtain ⟨Fr, M, G, ρ, μ, r, μ', s, rr, e, q⟩ := q
          exact ⟨Fr, M, G, ρ, μ, r, μ', s, rr, by simpa only [evE] using e, q⟩
        · obtain ⟨Fr, M, G, ρ, μ, r, μ', s, rr, e, q⟩ := q
          exact ⟨Fr, M, G, ρ, μ, r, μ', s, rr, by simpa only [evE] using e, q⟩
      | _ => exact ff h
    | _ => exact ff h
  | .ite d a b, c, X, g, e, h => by
    cases e with
    | IfExp d' a' b' pos =>
      simp only [ckE, Bool.and_eq_true] at h
      exact ⟨snd_ite ((soundE d _ X g d' h.1.1.1).2 h.1.1.2) (soundE a _ X g a' h.1.2).1 (soundE b _ X g b' h.2).1, fun z => ff z⟩
    | _ => exact ff h
  | .idx a i, c, X, g, e, h => by
    cases e with
    | Subscript a' i' pos =>
      simp only [ckE, Bool.and_eq_true] at h
      have p := snd_idx (pos := pos) (soundE a _ X g a' h.1).1 (soundE i _ X g i' h.2).1 (ck_plain h.2)
      exact ⟨p, fun _ => pt_tv p rfl⟩
    | _ => exact ff h
  | .sli a lo hi, c, X, g, e, h => by
    cases e with
    | Subscript a' i' pos =>
      cases i' with
      | Slice lo' hi' st p =>
        cases st with
        | none =>
          simp only [ckE, Bool.and_eq_true] at h
          have p := snd_sli (pos := pos) (p := p) (soundE a _ X g a' h.1.1).1 (soundO lo _ X g lo' h.1.2) (soundO hi _ X g hi' h.2)
          exact ⟨p, fun _ => pt_tv p rfl⟩
        | some _ => exact ff h
      | _ => exact ff h
    | _ => exact ff h
  | .isi a t, c, X, g, e, h => by
    cases e with
    | Call f as ks pos =>
      cases f with
      | Name x p =>
        match as, h with
        | [a', b'], h =>
          cases ks with
          | nil =>
            simp only [ckE, Bool.and_eq_true, decide_eq_true_eq] at h
            obtain ⟨⟨⟨h1, rfl⟩, h2⟩, h3⟩ := h
            obtain ⟨p2, rfl, h4⟩ := isNm_of h2
            have p := snd_isi (p := p) (p2 := p2) (pos := pos) g h1 h4 (soundE a _ X g a' h3).1 (ck_plain h3)
            exact ⟨p, fun _ => pt_tv p rfl⟩
          | cons _ _ => exact ff h
        | [], h => exact ff h
        | [_], h => exact ff h
        | _ :: _ :: _ :: _, h => exact ff h
      | _ => exact ff h
    | _ => exact ff h
  | .call f es, c, X, g, e, h => by
    cases e with
    | Call x ls ks pos =>
      cases x with
      | Name x p =>
        cases ks with
        | nil =>
          simp only [ckE, Bool.and_eq_true, decide_eq_true_eq] at h
          obtain ⟨_, q1, q2, q3, _⟩ := soundEs es _ X g ls h.2
          have p := snd_call (p := p) (pos := pos) g h.1.1.1 h.1.1.2 h.1.2 q1 q2 q3
          exact ⟨p, fun _ => pt_tv p rfl⟩
        | cons _ _ => exact ff h
      | _ => exact ff h
    | _ => exact ff h
  | .callM f es, c, X, g, e, h => by
    cases e with
    | Call x ls ks pos =>
      cases x with
      | Name x p =>
        cases ks with
        | nil =>
          simp only [ckE, Bool.and_eq_true, decide_eq_true_eq] at h
          obtain ⟨_, q1, q2, q3, _⟩ := soundEs es _ X g ls h.2
          have p := (snd_callM (p := p) (pos := pos) g h.1.1 h.1.2 q1 q2 q3).wk fun σ H Q q => tvN_tv callM_list q
          exact ⟨p, fun _ => pt_tv p rfl⟩
        | cons _ _ => exact ff h
      | _ => exact ff h
    | _ => exact ff h
  | .callC f es, c, X, g, e, h => by
    cases e with
    | Call x ls ks pos =>
      cases x with
      | Name x p =>
        cases ks with
        | nil =>
          simp only [ckE, Bool.and_eq_true, decide_eq_true_eq, Bool.not_eq_true'] at h
          obtain ⟨⟨⟨⟨⟨h0, h1⟩, h2⟩, h3⟩, h4⟩, h5⟩ := h
          obtain ⟨_, q1, q2, q3, _⟩ := soundEs es _ X g ls h4
          have p := snd_callC (p := p) (pos := pos) g (g.top h0) h1 h2 h3 q1 q2 h5
          exact ⟨p, fun _ => pt_tv p rfl⟩
        | cons _ _ => exact ff h
      | _ => exact ff h
    | _ => exact ff h
  | .callV i es, c, X, g, e, h => by
    cases e with
    | Call x ls ks pos =>
      cases x with
      | Name x p =>
        cases ks with
        | nil =>
          simp only [ckE, Bool.and_eq_true, decide_eq_true_eq, Bool.not_eq_true'] at h
          obtain ⟨⟨⟨h1, h2⟩, h4⟩, h5⟩ := h
          obtain ⟨_, q1, q2, q3, _⟩ := soundEs es _ X g ls h4
          have p := snd_callV (p := p) (pos := pos) g h1 h2 q1 q2 h5
          exact ⟨p, fun _ => pt_tv p rfl⟩
        | cons _ _ => exact ff h
      | _ => exact ff h
    | _ => exact ff h
  | .lam j js, c, X, g, e, h => by
    cases e with
    | Lambda params body scope pos =>
      simp only [ckE, Bool.and_eq_true, decide_eq_true_eq] at h
      obtain ⟨⟨⟨⟨h0, h1⟩, h2⟩, h3⟩, h4⟩ := h
      have p := snd_lam (pos := pos) (F := F) (C := C) g (g.top h0) h1 h2 h3 h4
      exact ⟨p, fun _ => pt_tv p rfl⟩
    | _ => exact ff h
  | .ixof a m, c, X, g, e, h => by
    cases e with
    | Call x ls ks pos =>
      cases x with
      | Attribute o y ap =>
        cases o with
        | Name x xp =>
          match ls, h with
          | [v], h =>
            cases ks with
            | nil =>
              simp only [ckE, Bool.and_eq_true, decide_eq_true_eq] at h
              obtain ⟨⟨⟨rfl, h1⟩, h2⟩, h3⟩ := h
              have p := snd_ixof g h1 (soundE a _ X g _ h2).1 (soundE m _ X g v h3).1 (ck_plain h3)
              exact ⟨p, fun _ => pt_tv p rfl⟩
            | cons _ _ => exact ff h
          | [], h => exact ff h
          | _ :: _ :: _, h => exact ff h
        | _ => exact ff h
      | _ => exact ff h
    | _ => exact ff h
  | .pop a m, c, X, g, e, h => by
    cases e with
    | Call x ls ks pos =>
      cases x with
      | Attribute o y ap =>
        cases o with
        | Name x xp =>
          match ls, h with
          | [v], h =>
            cases ks with
            | nil =>
              simp only [ckE, Bool.and_eq_true, decide_eq_true_eq] at h
              obtain ⟨⟨⟨rfl, h1⟩, h2⟩, h3⟩ := h
              have p := snd_pop g h1 (soundE a _ X g _ h2).1 (soundE m _ X g v h3).1 (ck_plain h3)
              exact ⟨p, fun _ => pt_tv p rfl⟩
            | cons _ _ => exact ff h
          | [], h => exact ff h
          | _ :: _ :: _, h => exact ff h
        | _ => exact ff h
      | _ => exact ff h
    | _ => exact ff h
  | .trv m, c, X, g, e, h => by
    cases e with
    | Call x ls ks pos =>
      cases x with
      | Name x p =>
        cases ls with
        | nil => exact ff h
        | cons a as =>
          cases a with
          | Call f2 l2 k2 pos2 =>
            cases f2 with
            | Name y p2 =>
              cases l2 with
              | nil => exact ff h
              | cons l l3 =>
                cases l3 with
                | cons _ _ => exact ff h
                | nil =>
                  cases k2 with
                  | cons _ _ => exact ff h
                  | nil =>
                    cases as with
                    | cons _ _ => exact ff h
                    | nil =>
                      cases ks with
                      | cons _ _ => exact ff h
                      | nil =>
                        simp only [ckE, Bool.and_eq_true, decide_eq_true_eq] at h
                        obtain ⟨⟨⟨⟨h1, rfl⟩, h2⟩, rfl⟩, h3⟩ := h
                        have p := snd_trv (p := p) (p2 := p2) (pos := pos) (pos2 := pos2) g h1 h2 (soundE m _ X g l h3).1 (ck_plain h3)
                        exact ⟨p, fun _ => pt_tv p rfl⟩
            | _ => exact ff h
          | _ => exact ff h
      | _ => exact ff h
    | Subscript l sl pos =>
      cases sl with
      | Slice lo hi st p3 =>
        cases lo with
        | some _ => exact ff h
        | none =>
          cases hi with
          | some _ => exact ff h
          | none =>
            cases st with
            | none => exact ff h
            | some t =>
              cases t with
              | UnaryOp o v p2 =>
                cases o with
                | USub =>
                  cases v with
                  | Constant kc kk p1 =>
                    cases kc with
                    | int i =>
                      simp only [ckE, Bool.and_eq_true, decide_eq_true_eq] at h
                      obtain ⟨rfl, h3⟩ := h
                      have p := snd_back (k := kk) (p1 := p1) (p2 := p2) (p3 := p3) (pos := pos) (soundE m _ X g l h3).1
                      exact ⟨p, fun _ => pt_tv p rfl⟩
                    | _ => exact ff h
                  | _ => exact ff h
                | _ => exact ff h
              | _ => exact ff h
      | _ => exact ff h
    | _ => exact ff h
  | .lrv m, c, X, g, e, h => by
    cases e with
    | Subscript l sl pos =>
      cases sl with
      | Slice lo hi st p3 =>
        cases lo with
        | some _ => exact ff h
        | none =>
          cases hi with
          | some _ => exact ff h
          | none =>
            cases st with
            | none => exact ff h
            | some t =>
              cases t with
              | UnaryOp o v p2 =>
                cases o with
                | USub =>
                  cases v with
                  | Constant kc kk p1 =>
                    cases kc with
                    | int i =>
                      simp only [ckE, Bool.and_eq_true, decide_eq_true_eq] at h
                      obtain ⟨rfl, h3⟩ := h
                      have p := snd_lback (k := kk) (p1 := p1) (p2 := p2) (p3 := p3) (pos := pos) (soundE m _ X g l h3).1
                      exact ⟨p, fun _ => pt_tv p rfl⟩
                    | _ => exact ff h
                  | _ => exact ff h
                | _ => exact ff h
              | _ => exact ff h
      | _ => exact ff h
    | _ => exact ff h
  | .lset m, c, X, g, e, h => by
    cases e with
    | Call x ls ks pos =>
      cases x with
      | Name x p =>
        cases ls with
        | nil => exact ff h
        | cons a as =>
          cases a with
          | Call f2 l2 k2 pos2 =>
            cases f2 with
            | Name y p2 =>
              cases l2 with
              | nil => exact ff h
              | cons l l3 =>
                cases l3 with
                | cons _ _ => exact ff h
                | nil =>
                  cases k2 with
                  | cons _ _ => exact ff h
                  | nil =>
                    cases as with
                    | cons _ _ => exact ff h
                    | nil =>
                      cases ks with
                      | cons _ _ => exact ff h
                      | nil =>
                        simp only [ckE, Bool.and_eq_true, decide_eq_true_eq] at h
                        obtain ⟨⟨⟨⟨h1, rfl⟩, h2⟩, rfl⟩, h3⟩ := h
                        have p := snd_lset (p := p) (p2 := p2) (pos := pos) (pos2 := pos2) g h1 h2 (soundE m _ X g l h3).1 (ck_plain h3)
                        exact ⟨p, fun _ => pt_tv p rfl⟩
            | _ => exact ff h
          | _ => exact ff h
      | _ => exact ff h
    | _ => exact ff h
  | .mm2 t a d, c, X, g, e, h => by
    cases e with
    | Call x ls ks pos =>
      cases x with
      | Name x p =>
        match ls, h with
        | [a', d'], h =>
          cases ks with
          | nil =>
            simp only [ckE, Bool.and_eq_true, decide_eq_true_eq] at h
            obtain ⟨⟨⟨h1, rfl⟩, h3⟩, h4⟩ := h
            have p := snd_mm2 (p := p) (pos := pos) g h1 (soundE a _ X g a' h3).1 (soundE d _ X g d' h4).1 (ck_plain h3) (ck_plain h4)
            exact ⟨p, fun _ => pt_tv p rfl⟩
          | cons _ _ => exact ff h
        | [], h => exact ff h
        | [_], h => exact ff h
        | _ :: _ :: _ :: _, h => exact ff h
      | _ => exact ff h
    | _ => exact ff h
  | .sset m, c, X, g, e, h => by
    cases e with
    | Call x ls ks pos =>
      cases x with
      | Name x p =>
        cases ls with
        | nil => exact ff h
        | cons a as =>
          cases a with
          | Call f2 l2 k2 pos2 =>
            cases f2 with
            | Name y p2 =>
              cases l2 with
              | nil => exact ff h
              | cons l l3 =>
                cases l3 with
                | cons _ _ => exact ff h
                | nil =>
                  cases k2 with
                  | cons _ _ => exact ff h
                  | nil =>
                    cases as with
                    | cons _ _ => exact ff h
                    | nil =>
                      cases ks with
                      | cons _ _ => exact ff h
                      | nil =>
                        simp only [ckE, Bool.and_eq_true, decide_eq_true_eq] at h
                        obtain ⟨⟨⟨⟨h1, rfl⟩, h2⟩, rfl⟩, h3⟩ := h
                        have p := (new_sset (p := p) (p2 := p2) (pos := pos) (pos2 := pos2) g h1 h2 (soundE m _ X g l h3).1 (ck_plain h3)).wk fun σ H Q q => tvN_tv sset_list q
                        exact ⟨p, fun _ => pt_tv p rfl⟩
            | _ => exact ff h
          | _ => exact ff h
      | _ => exact ff h
    | _ => exact ff h
  | .rgL m, c, X, g, e, h => by
    cases e with
    | Call x ls ks pos =>
      cases x with
      | Name x p =>
        cases ls with
        | nil => exact ff h
        | cons a as =>
          cases a with
          | Call f2 l2 k2 pos2 =>
            cases f2 with
            | Name y p2 =>
              cases l2 with
              | nil => exact ff h
              | cons l l3 =>
                cases l3 with
                | cons _ _ => exact ff h
                | nil =>
                  cases k2 with
                  | cons _ _ => exact ff h
                  | nil =>
                    cases as with
                    | cons _ _ => exact ff h
                    | nil =>
                      cases ks with
                      | cons _ _ => exact ff h
                      | nil =>
                        simp only [ckE, Bool.and_eq_true, decide_eq_true_eq] at h
                        obtain ⟨⟨⟨⟨h1, rfl⟩, h2⟩, rfl⟩, h3⟩ := h
                        have p := (new_rgL (p := p) (p2 := p2) (pos := pos) (pos2 := pos2) g h1 h2 (soundE m _ X g l h3).1 (ck_plain h3)).wk fun σ H Q q => tvN_tv rgL_list q
                        exact ⟨p, fun _ => pt_tv p rfl⟩
            | _ => exact ff h
          | _ => exact ff h
      | _ => exact ff h
    | _ => exact ff h
  | .rgL2 m m2, c, X, g, e, h => by
    cases e with
    | Call x ls ks pos =>
      cases x with
      | Name x p =>
        cases ls with
        | nil => exact ff h
        | cons a as =>
          cases a with
          | Call f2 l2 k2 pos2 =>
            cases f2 with
            | Name y p2 =>
              cases l2 with
              | nil => exact ff h
              | cons l l3 =>
                cases l3 with
                | nil => exact ff h
                | cons l' l4 =>
                  cases l4 with
                  | cons _ _ => exact ff h
                  | nil =>
                    cases k2 with
                    | cons _ _ => exact ff h
                    | nil =>
                      cases as with
                      | cons _ _ => exact ff h
                      | nil =>
                        cases ks with
                        | cons _ _ => exact ff h
                        | nil =>
                          simp only [ckE, Bool.and_eq_true, decide_eq_true_eq] at h
                          obtain ⟨⟨⟨⟨⟨h1, rfl⟩, h2⟩, rfl⟩, h3⟩, h4⟩ := h
                          have p := (snd_rgL2 (p := p) (p2 := p2) (pos := pos) (pos2 := pos2) g h1 h2 (soundE m _ X g l h3).1 (ck_plain h3) (soundE m2 _ X g l' h4).1 (ck_plain h4)).wk fun σ H Q q => tvN_tv rgL2_list q
                          exact ⟨p, fun _ => pt_tv p rfl⟩
            | _ => exact ff h
          | _ => exact ff h
      | _ => exact ff h
    | _ => exact ff h
  | .rgT m, c, X, g, e, h => by
    cases e with
    | Call x ls ks pos =>
      cases x with
      | Name x p =>
        cases ls with
        | nil => exact ff h
        | cons a as =>
          cases a with
          | Call f2 l2 k2 pos2 =>
            cases f2 with
            | Name y p2 =>
              cases l2 with
              | nil => exact ff h
              | cons l l3 =>
                cases l3 with
                | cons _ _ => exact ff h
                | nil =>
                  cases k2 with
                  | cons _ _ => exact ff h
                  | nil =>
                    cases as with
                    | cons _ _ => exact ff h
                    | nil =>
                      cases ks with
                      | cons _ _ => exact ff h
                      | nil =>
                        simp only [ckE, Bool.and_eq_true, decide_eq_true_eq] at h
                        obtain ⟨⟨⟨⟨h1, rfl⟩, h2⟩, rfl⟩, h3⟩ := h
                        have p := snd_rgT (p := p) (p2 := p2) (pos := pos) (pos2 := pos2) g h1 h2 (soundE m _ X g l h3).1 (ck_plain h3)
                        exact ⟨p, fun _ => pt_tv p rfl⟩
            | _ => exact ff h
          | _ => exact ff h
      | _ => exact ff h
    | _ => exact ff h
  | .srt m, c, X, g, e, h => by
    cases e with
    | Call x ls ks pos =>
      cases x with
      | Name x p =>
        match ls, h with
        | [l], h =>
          cases ks with
          | nil =>
            simp only [ckE, Bool.and_eq_true, decide_eq_true_eq] at h
            obtain ⟨⟨h1, rfl⟩, h3⟩ := h
            have p := (new_srt (p := p) (pos := pos) g h1 (soundE m _ X g l h3).1 (ck_plain h3)).wk fun σ H Q q => tvN_tv srt_list q
            exact ⟨p, fun _ => pt_tv p rfl⟩
          | cons _ _ => exact ff h
        | [], h => exact ff h
        | _ :: _ :: _, h => exact ff h
      | _ => exact ff h
    | _ => exact ff h
  | .bi b a, c, X, g, e, h => by
    cases e with
    | Call x ls ks pos =>
      cases x with
      | Name x p =>
        match ls, h with
        | [a'], h =>
          cases ks with
          | nil =>
            simp only [ckE, Bool.and_eq_true, decide_eq_true_eq] at h
            obtain ⟨⟨h1, rfl⟩, h2⟩ := h
            have p := snd_bi (p := p) (pos := pos) g h1 (soundE a _ X g a' h2).1 (ck_plain h2)
            exact ⟨p, fun _ => pt_tv p rfl⟩
          | cons _ _ => exact ff h
        | [], h => exact ff h
        | _ :: _ :: _, h => exact ff h
      | _ => exact ff h
    | _ => exact ff h
  | .comp own tg it cs elt, c, X, g, e, h => by
    cases e with
    | ListComp elt' gs scope pos =>
      cases gs with
      | nil => exact ff h
      | cons g1 gs =>
       obtain ⟨tg', it', ifs', as⟩ := g1
       cases gs with
       | cons _ _ => exact ff h
       | nil =>
        simp only [ckE, Bool.and_eq_true, List.all_eq_true, decide_eq_true_eq] at h
        obtain ⟨⟨⟨⟨⟨⟨⟨⟨rfl, h1⟩, h2⟩, h3⟩, h4⟩, h5⟩, h6⟩, h7⟩, h8⟩ := h
        obtain ⟨pi, pp⟩ := soundI it _ X g tg' it' h4
        have q := snd_comp (pos := pos) g pi pp (by rw [g.N]; exact h1) h3
          (fun s H A cl fp => ckTg_pg (X := X.blk s H scope (compEnvC scope cl A X.env) fp) h5 g.N g.nd g.calm fun x _ hx => .inl hx)
          (fun s H A cl fp => (soundEs cs _ _ (g.blk s H scope (compEnvC scope cl A X.env) fp) ifs' h6).2.2.2.2.2.2 h7)
          (fun s H A cl fp => (soundE elt _ _ (g.blk s H scope (compEnvC scope cl A X.env) fp) elt' h8).1)
        have p := q.1.wk fun σ H Q q => tvN_tv comp_list q
        exact ⟨p, fun _ => pt_tv p rfl⟩
    | _ => exact ff h
  | .comp2 own tg it tg1 it1 cs elt, c, X, g, e, h => by
    cases e with
    | ListComp elt' gs scope pos =>
      cases gs with
      | nil => exact ff h
      | cons g1 gs =>
       obtain ⟨tg', it', ifs0, as⟩ := g1
       cases gs with
       | nil => cases ifs0 <;> exact ff h
       | cons g2 gs =>
       obtain ⟨tg1', it1', ifs', as1⟩ := g2
       cases ifs0 with
       | cons _ _ => exact ff h
       | nil =>
       cases gs with
       | cons _ _ => exact ff h
       | nil =>
        simp only [ckE, Bool.and_eq_true, List.all_eq_true, decide_eq_true_eq] at h
        obtain ⟨⟨⟨⟨⟨⟨⟨⟨⟨⟨⟨⟨rfl, rfl⟩, h1⟩, h2⟩, h3⟩, h3'⟩, h4⟩, h5⟩, h4'⟩, h5'⟩, h6⟩, h7⟩, h8⟩ := h
        obtain ⟨pi, pp⟩ := soundI it _ X g tg' it' h4
        have pp1 : plainX it1' = true := ckI_plain h4'
        have q := snd_comp2 (pos := pos) g pi pp pp1 (by rw [g.N]; exact h1) h3 h3'
          (fun s H A cl fp => ckTg_pg (X := X.blk s H scope (compEnvC scope cl A X.env) fp) h5 g.N g.nd g.calm fun x _ hx => .inl hx)
          (fun s H A cl fp => (soundI it1 _ _ (g.blk s H scope (compEnvC scope cl A X.env) fp) tg1' it1' h4').1)
          (fun s H A cl fp => ckTg_pg (X := X.blk s H scope (compEnvC scope cl A X.env) fp) h5' g.N g.nd g.calm fun x _ hx => .inl hx)
          (fun s H A cl fp => (soundEs cs _ _ (g.blk s H scope (compEnvC scope cl A X.env) fp) ifs' h6).2.2.2.2.2.2 h7)
          (fun s H A cl fp => (soundE elt _ _ (g.blk s H scope (compEnvC scope cl A X.env) fp) elt' h8).1)
        have p := q.1.wk fun σ H Q q => tvN_tv comp2_list q
        exact ⟨p, fun _ => pt_tv p rfl⟩
    | _ => exact ff h
theorem soundEs : ∀ (es : Es) (c : Sc) (X : Cx) (g : Good X S O c C k F) (ls : List Expr), ckEs c X.env.scope es ls = true → PA X ls (tvA X.K S O (evEs C F es)) ∧ PA X ls (tvV X.K S O (evVs C F es)) ∧ (∀ e ∈ ls, plainX e = true) ∧ es.len = ls.length ∧
    (∀ pos, PE X (.BoolOp .And ls pos) (tv X.K S O fun ρ μ => (evAnd C F es ρ μ).map fun (b, μ1) => (.d (.bool b), μ1)) ∧ PE X (.BoolOp .Or ls pos) (tv X.K S O fun ρ μ => (evOr C F es ρ μ).map fun (b, μ1) => (.d (.bool b), μ1))) ∧
    (es.tOk = true → ∀ pos, PW X (.BoolOp .And ls pos) (tvT X.K S O (evAnd C F es)) ∧ PW X (.BoolOp .Or ls pos) (tvT X.K S O (evOr C F es))) ∧
    (es.tOk = true → PTs X ls (tvT X.K S O (evCs C F es)))
  | .nil, c, X, g, ls, h => by
    cases ls with
    | nil =>
      refine ⟨snd_es_nil, snd_vs_nil, fun _ z => (nomatch z), rfl, fun pos => ⟨vacE fun _ _ => by simp only [evAnd]; rfl, vacE fun _ _ => by simp only [evOr]; rfl⟩, fun _ pos => ⟨vacW fun _ _ => by simp only [evAnd], vacW fun _ _ => by simp only [evOr]⟩, fun _ => pts_nil.wk fun σ H Q q => ?_⟩
      obtain ⟨Fr, M, G, ρ, μ, r, μ', s, rr, e, q⟩ := q
      simp only [evCs] at e
      cases e
      exact q H G (Le.rfl' _) s rfl
    | cons _ _ => exact ff h
  | .cons m es, c, X, g, ls, h => by
    cases ls with
    | nil => exact ff h
    | cons l ls =>
      simp only [ckEs, Bool.and_eq_true] at h
      obtain ⟨p1, p2⟩ := soundE m _ X g l h.1
      obtain ⟨q1, q2, q3, q4, q5, q6, q7⟩ := soundEs es _ X g ls h.2
      have pl := ck_plain h.1
      refine ⟨snd_es_cons p1 pl q1, snd_vs_cons p1 pl q2, fun e he => (List.mem_cons.mp he).elim (fun z => z ▸ pl) (q3 e), by simp only [Es.len, q4, List.length_cons], fun pos => ?_, fun ht pos => ?_, fun ht => ?_⟩
      · cases es with
        | nil =>
          cases ls with
          | nil => exact ⟨snd_and1 p1, snd_or1 p1⟩
          | cons _ _ => exact ff h.2
        | cons m2 es =>
          cases ls with
          | nil => exact ff h.2
          | cons l2 ls => exact ⟨snd_and2 p1 (q5 pos).1, snd_or2 p1 (q5 pos).2⟩
      · simp only [Es.tOk, Bool.and_eq_true] at ht
        cases es with
        | nil =>
          cases ls with
          | nil => exact ⟨tst_and1 (p2 ht.1), tst_or1 (p2 ht.1)⟩
          | cons _ _ => exact ff h.2
        | cons m2 es =>
          cases ls with
          | nil => exact ff h.2
          | cons l2 ls => exact ⟨tst_and2 (p2 ht.1) (q6 ht.2 pos).1, tst_or2 (p2 ht.1) (q6 ht.2 pos).2⟩
      · simp only [Es.tOk, Bool.and_eq_true] at ht
        cases es with
        | nil =>
          cases ls with
          | nil =>
            refine (pts_one (p2 ht.1)).wk fun σ H Q q => ?_
            obtain ⟨Fr, M, G, ρ, μ, r, μ', s, rr, e, q⟩ := q
            simp only [evCs] at e
            exact ⟨Fr, M, G, ρ, μ, r, μ', s, rr, e, q⟩
          | cons _ _ => exact ff h.2
        | cons m2 es => exact vacTs fun _ _ => by simp only [evCs]
theorem soundO : ∀ (o : Oe) (c : Sc) (X : Cx) (g : Good X S O c C k F) (e : Option Expr), ckO c X.env.scope o e = true → PO X e (tvO X.K S O (evO C F o))
  | .no, c, X, g, e, h => by
    cases e with
    | none => exact snd_oe_no
    | some _ => exact ff h
  | .so m, c, X, g, e, h => by
    cases e with
    | none => exact ff h
    | some e =>
      simp only [ckO] at h
      exact snd_oe_so (soundE m _ X g e h).1
theorem soundI : ∀ (it : It) (c : Sc) (X : Cx) (g : Good X S O c C k F) (tg e : Expr), ckI c X.env.scope it tg e = true → PI X tg e (tvI X.K S O (evI C F it)) ∧ plainX e = true
  | .seq m, c, X, g, tg, e, h => by
    simp only [ckI] at h
    exact ⟨snd_seq (soundE m _ X g e h).1, ck_plain h⟩
  | .rng m, c, X, g, tg, e, h => by
    cases e with
    | Call x ls ks pos =>
      cases x with
      | Name x p =>
        match ls, h with
        | [a'], h =>
          cases ks with
          | nil =>
            simp only [ckI, Bool.and_eq_true, decide_eq_true_eq] at h
            obtain ⟨⟨h1, rfl⟩, h2⟩ := h
            exact ⟨snd_rng g h1 (soundE m _ X g a' h2).1 (ck_plain h2), rfl⟩
          | cons _ _ => exact ff h
        | [], h => exact ff h
        | _ :: _ :: _, h => exact ff h
      | _ => exact ff h
    | _ => exact ff h
  | .rng2 m m', c, X, g, tg, e, h => by
    cases e with
    | Call x ls ks pos =>
      cases x with
      | Name x p =>
        match ls, h with
        | [a', b'], h =>
          cases ks with
          | nil =>
            simp only [ckI, Bool.and_eq_true, decide_eq_true_eq] at h
            obtain ⟨⟨⟨h1, rfl⟩, h2⟩, h3⟩ := h
            exact ⟨snd_rng2 g h1 (soundE m _ X g a' h2).1 (soundE m' _ X g b' h3).1 (ck_plain h2) (ck_plain h3), rfl⟩
          | cons _ _ => exact ff h
        | [], h => exact ff h
        | [_], h => exact ff h
        | _ :: _ :: _ :: _, h => exact ff h
      | _ => exact ff h
    | _ => exact ff h
  | .rng3 m m' m'', c, X, g, tg, e, h => by
    cases e with
    | Call x ls ks pos =>
      cases x with
      | Name x p =>
        match ls, h with
        | [a', b', d'], h =>
          cases ks with
          | nil =>
            simp only [ckI, Bool.and_eq_true, decide_eq_true_eq] at h
            obtain ⟨⟨⟨⟨h1, rfl⟩, h2⟩, h3⟩, h4⟩ := h
            exact ⟨snd_rng3 g h1 (soundE m _ X g a' h2).1 (soundE m' _ X g b' h3).1 (soundE m'' _ X g d' h4).1 (ck_plain h2) (ck_plain h3) (ck_plain h4), rfl⟩
          | cons _ _ => exact ff h
        | [], h => exact ff h
        | [_], h => exact ff h
        | [_, _], h => exact ff h
        | _ :: _ :: _ :: _ :: _, h => exact ff h
      | _ => exact ff h
    | _ => exact ff h
  | .zip m m', c, X, g, tg, e, h => by
    cases tg with
    | Tuple ts kk tpos =>
      cases e with
      | Call x ls ks pos =>
        cases x with
        | Name x p =>
          match ls, h with
          | [a', b'], h =>
            cases ks with
            | nil =>
              simp only [ckI, Bool.and_eq_true, decide_eq_true_eq] at h
              obtain ⟨⟨⟨h1, rfl⟩, h2⟩, h3⟩ := h
              exact ⟨snd_zip g h1 (soundE m _ X g a' h2).1 (soundE m' _ X g b' h3).1 (ck_plain h2) (ck_plain h3), rfl⟩
            | cons _ _ => exact ff h
          | [], h => exact ff h
          | [_], h => exact ff h
          | _ :: _ :: _ :: _, h => exact ff h
        | _ => exact ff h
      | _ => exact ff h
    | _ => exact ff h
  | .enu m, c, X, g, tg, e, h => by
    cases tg with
    | Tuple ts kk tpos =>
      cases e with
      | Call x ls ks pos =>
        cases x with
        | Name x p =>
          match ls, h with
          | [a'], h =>
            cases ks with
            | nil =>
              simp only [ckI, Bool.and_eq_true, decide_eq_true_eq] at h
              obtain ⟨⟨h1, rfl⟩, h2⟩ := h
              exact ⟨snd_enu g h1 (soundE m _ X g a' h2).1 (ck_plain h2), rfl⟩
            | cons _ _ => exact ff h
          | [], h => exact ff h
          | _ :: _ :: _, h => exact ff h
        | _ => exact ff h
      | _ => exact ff h
    | _ => exact ff h
end
end Mu

namespace Mu
open PySem PySem.Spec PyProof.Rows L2 LamX NdefX
variable {S : ST} {O : OF} {c : Sc} {C : Cons} {k : Nat} {F : Calls}

/-! ### statements: the check -/
def isComp : Expr → Bool
  | .ListComp .. => true
  | .SetComp .. => true
  | .DictComp .. => true
  | _ => false
def compB (sc : Scope) (x : Str) (py : Pos) : Expr → Bool
  | .ListComp _ _ scope pos => decide (sc.names.lookup x = some .local) && (py.line == pos.line) && !(scope.names.any fun (n, k) => n == x && (k == .local || k == .cell))
  | _ => false
/-- a name that a comprehension reads, too -/
def cellB (sc : Scope) (x : Str) : Bool := decide (sc.names.lookup x = some .cell)
def compB' (sc : Scope) (x : Str) (py : Pos) (e : Expr) : Bool := compB sc x py e || cellB sc x
/-- a pair of names, one of which a comprehension reads: stored in their order -/
def pairC (sc : Scope) : List Expr → Expr → Bool
  | [.Name x _, .Name y _], .Tuple es _ _ => cellB sc x || cellB sc y || es.all (foldedForSure 8)
  | _, _ => false
/-- expressions that make a new list -/
def isNew : E → Bool
  | .lst _ => true
  | .rep _ _ => true
  | .comp .. => true
  | .comp2 .. => true
  | .bi .lst _ => true
  | .callM .. => true
  | .bop .add _ _ => true
  | .rgL _ => true
  | .sset _ => true
  | .srt _ => true
  | _ => false
def notTup : Expr → Bool
  | .Tuple .. => false
  | e => !isComp e
def nmE : Expr → Option (Str × Pos)
  | .Name x p => some (x, p)
  | _ => none
theorem nmE_of {e : Expr} {y : Str × Pos} (h : nmE e = some y) : e = .Name y.1 y.2 := by
  cases e <;> first | (cases h; rfl) | cases h
def one {α : Type} (f : Expr → Option α) : List Expr → Option α
  | [e] => f e
  | _ => none
theorem one_of {α : Type} {f : Expr → Option α} {ts : List Expr} {y : α} (h : one f ts = some y) : ∃ e, ts = [e] ∧ f e = some y := by
  match ts, h with
  | [e], h => exact ⟨e, rfl, h⟩
def tpE : Expr → Option (List Expr × Nat × Pos)
  | .Tuple l k p => some (l, k, p)
  | _ => none
theorem tpE_of {e : Expr} {y : List Expr × Nat × Pos} (h : tpE e = some y) : e = .Tuple y.1 y.2.1 y.2.2 := by
  cases e <;> first | (cases h; rfl) | cases h
def subE : Expr → Option (Expr × Expr × Pos)
  | .Subscript a i p => some (a, i, p)
  | _ => none
theorem subE_of {e : Expr} {y : Expr × Expr × Pos} (h : subE e = some y) : e = .Subscript y.1 y.2.1 y.2.2 := by
  cases e <;> first | (cases h; rfl) | cases h
def two {α : Type} (f : Expr → Option α) : List Expr → Option (α × α)
  | [d, e] => (f d).bind fun x => (f e).map fun y => (x, y)
  | _ => none
theorem two_of {α : Type} {f : Expr → Option α} {ts : List Expr} {y : α × α} (h : two f ts = some y) : ∃ d e, ts = [d, e] ∧ f d = some y.1 ∧ f e = some y.2 := by
  match ts, h with
  | [d, e], h =>
    obtain ⟨a, h1, h⟩ := Option.bind_eq_some_iff.mp h
    obtain ⟨b, h2, h⟩ := Option.map_eq_some_iff.mp h
    cases h
    exact ⟨d, e, rfl, h1, h2⟩
def three {α : Type} (f : Expr → Option α) : List Expr → Option (α × α × α)
  | [d, e, g] => (f d).bind fun x => (f e).bind fun y => (f g).map fun z => (x, y, z)
  | _ => none
theorem three_of {α : Type} {f : Expr → Option α} {ts : List Expr} {y : α × α × α} (h : three f ts = some y) : ∃ d e g, ts = [d, e, g] ∧ f d = some y.1 ∧ f e = some y.2.1 ∧ f g = some y.2.2 := by
  match ts, h with
  | [d, e, g], h =>
    obtain ⟨a, h1, h⟩ := Option.bind_eq_some_iff.mp h
    obtain ⟨b, h2, h⟩ := Option.bind_eq_some_iff.mp h
    obtain ⟨c, h3, h⟩ := Option.map_eq_some_iff.mp h
    cases h
    exact ⟨d, e, g, rfl, h1, h2, h3⟩
def appE : Expr → Option ((Str × Pos) × Str × Pos × Expr × Pos)
  | .Call (.Attribute o y ap) [v] [] pos => (nmE o).map fun x => (x, y, ap, v, pos)
  | _ => none
theorem appE_of {e : Expr} {z : (Str × Pos) × Str × Pos × Expr × Pos} (h : appE e = some z) : e = .Call (.Attribute (.Name z.1.1 z.1.2) z.2.1 z.2.2.1) [z.2.2.2.1] [] z.2.2.2.2 := by
  unfold appE at h
  split at h
  · obtain ⟨a, h1, h⟩ := Option.map_eq_some_iff.mp h
    cases h
    rw [nmE_of h1]
  · cases h
def okO {α : Type} (o : Option α) (f : α → Bool) : Bool := match o with
  | some x => f x
  | none => false
theorem okO_of {α : Type} {o : Option α} {f : α → Bool} (h : okO o f = true) : ∃ x, o = some x ∧ f x = true := by
  cases o with
  | none => cases h
  | some x => exact ⟨x, rfl, h⟩
def addSub : BOp → Bool
  | .add => true
  | .sub => true
  | _ => false
def parB (sc : Scope) (x y : Str) (px py : Pos) (e d : Expr) : Bool :=
  decide (sc.names.lookup x = some .local) && decide (sc.names.lookup y = some .local) && !(x == y) && (py.line == px.line) && plainX e && plainX d && !([e, d].all (foldedForSure 8)) && !([e, d].all (constantsAlone 8))
def par3B (sc : Scope) (x y z : Str) (px py pz : Pos) (e d g : Expr) : Bool :=
  decide (sc.names.lookup x = some .local) && decide (sc.names.lookup y = some .local) && decide (sc.names.lookup z = some .local) && decide (([x, y, z] : List Str).eraseDups.length = 3) && (py.line == px.line) && (pz.line == px.line) && plainX e && plainX d && plainX g && !([e, d, g].all (foldedForSure 8)) && !([e, d, g].all (constantsAlone 8))
def raiE : Stmt → Option (Str × Expr × Pos × Pos × Pos)
  | .Raise (some (.Call (.Name x p1) [a] [] p2)) none p3 => some (x, a, p1, p2, p3)
  | _ => none
theorem raiE_of {st : Stmt} {y : Str × Expr × Pos × Pos × Pos} (h : raiE st = some y) : st = .Raise (some (.Call (.Name y.1 y.2.2.1) [y.2.1] [] y.2.2.2.1)) none y.2.2.2.2 := by
  unfold raiE at h
  split at h
  · cases h; rfl
  · cases h
def retC : List Stmt → Option (Str × List Expr × Pos × Pos × Pos)
  | [.Return (some (.Call (.Name x p1) ls [] p2)) p3] => some (x, ls, p1, p2, p3)
  | _ => none
theorem retC_of {b : List Stmt} {y : Str × List Expr × Pos × Pos × Pos} (h : retC b = some y) : b = [.Return (some (.Call (.Name y.1 y.2.2.1) y.2.1 [] y.2.2.2.1)) y.2.2.2.2] := by
  unfold retC at h
  split at h
  · cases h; rfl
  · cases h
def retK : List Stmt → Option (Const × Nat × Pos × Pos)
  | [.Return (some (.Constant k j p1)) p2] => some (k, j, p1, p2)
  | _ => none
theorem retK_of {b : List Stmt} {y : Const × Nat × Pos × Pos} (h : retK b = some y) : b = [.Return (some (.Constant y.1 y.2.1 y.2.2.1)) y.2.2.2] := by
  unfold retK at h
  split at h
  · cases h; rfl
  · cases h
def hdE : List ExceptHandler → Option (Str × List Stmt × Pos × Pos)
  | [.ExceptHandler (some (.Name y p1)) none b p2] => some (y, b, p1, p2)
  | _ => none
theorem hdE_of {hs : List ExceptHandler} {y : Str × List Stmt × Pos × Pos} (h : hdE hs = some y) : hs = [.ExceptHandler (some (.Name y.1 y.2.2.1)) none y.2.1 y.2.2.2] := by
  unfold hdE at h
  split at h
  · cases h; rfl
  · cases h
def conK : D → Const → Bool
  | .none, .none => true
  | .str x, .str y => decide (x = y)
  | _, _ => false
mutual
def ckS (c : Sc) (sc : Scope) : Mu.S → Stmt → Bool
  | .set i e, .Assign ts v pos => okO (one nmE ts) fun (x, py) => decide (c.N[i]? = some x) && locB sc x && ckE c sc e v && (!isComp v || compB' sc x py v)
  | .set i (.bop .add (.var j) (.tup es)), .AugAssign t o' v _ => okO (nmE t) fun (x, _) => decide (i = j) && decide (c.N[i]? = some x) && locB sc x && decide (o' = Operator.Add) && ckE c sc (.tup es) v
  | .setM i e, .Assign ts v pos => okO (one nmE ts) fun (x, py) => decide (c.N[i]? = some x) && locB sc x && ckE c sc e v && isNew e && (!isComp v || compB' sc x py v)
  | .unp is e, .Assign ts v _ => okO (one tpE ts) fun (l, _) => ckNms c.N sc (fun _ => true) is l && ckE c sc e v && (notTup v || pairC sc l v)
  | .aug i o e, .AugAssign t o' v _ => okO (nmE t) fun (x, _) => decide (c.N[i]? = some x) && locB sc x && addSub o && decide (o.op = o') && ckE c sc e v
  | .par i j e d, .Assign ts v _ => okO (one tpE ts) fun (l, _) => okO (two nmE l) fun ((x, px), (y, py)) => okO (tpE v) fun (l2, _) => okO (two some l2) fun (e', d') => decide (c.N[i]? = some x) && decide (c.N[j]? = some y) && !(i == j) && parB sc x y px py e' d' && ckE c sc e e' && ckE c sc d d'
  | .par3 i j l e d g, .Assign ts v _ => okO (one tpE ts) fun (lt, _) => okO (three nmE lt) fun ((x, px), (y, py), (z, pz)) => okO (tpE v) fun (l2, _) => okO (three some l2) fun (e', d', g') => decide (c.N[i]? = some x) && decide (c.N[j]? = some y) && decide (c.N[l]? = some z) && !(i == j) && !(i == l) && !(j == l) && par3B sc x y z px py pz e' d' g' && ckE c sc e e' && ckE c sc d d' && ckE c sc g g'
  | .ret e, .Return v _ => okO v fun v => ckE c sc e v
  | .retN, .Return v _ => v.isNone
  | .retM e, .Return v _ => okO v fun v => ckE c sc e v && isNew e
  | .drop e, .Expr v _ => ckE c sc e v && !isComp v
  | .ext a e, .Expr v _ => okO (appE v) fun ((x, xp), y, ap, v, pos) => decide (y = ("extend" : Str)) && (ap.endLine == pos.line) && ckE c sc a (.Name x xp) && ckE c sc e v && isNew e
  | .app a e, .Expr v _ => okO (appE v) fun ((x, xp), y, ap, v, pos) => decide (y = ("append" : Str)) && (ap.endLine == pos.line) && ckE c sc a (.Name x xp) && ckE c sc e v
  | .put a i e, .Assign ts v _ => okO (one subE ts) fun (a', i', _) => ckE c sc a a' && ckE c sc i i' && ckE c sc e v && !isComp v
  | .put2 a i b j e d, .Assign ts v _ => okO (one tpE ts) fun (l, _) => okO (two subE l) fun ((a', i', _), (b', j', _)) => okO (tpE v) fun (l2, _) => okO (two some l2) fun (e', d') => ckE c sc a a' && ckE c sc i i' && ckE c sc b b' && ckE c sc j j' && ckE c sc e e' && ckE c sc d d'
  | .ife d a b, .If d' a' b' _ => ckE c sc d d' && tOk d && ckSs c sc a a' && ckSs c sc b b'
  | .whl d b, .While d' b' el _ => ckE c sc d d' && tOk d && ckSs c sc b b' && el.isEmpty
  | .for_ tg it b, .For tg' it' b' el _ => ckTg c.N sc (fun _ => true) tg tg' && ckI c sc it tg' it' && ckSs c sc b b' && el.isEmpty
  | .brk, .Break _ => true
  | .cnt, .Continue _ => true
  | .pass, .Pass _ => true
  | .ndef i j js, .FunctionDef name params body [] none [] scope none bd pos => c.m.top && decide (c.N[i]? = some name) && locB sc name && c.m.chk j ⟨params, .stmts body, scope⟩ && ckCap c sc scope js (c.m.fr j) && decide (c.m.nm pos.line pos.col = c.m.q ++ name) && plainPs params && decide (bd = name)
  | .rai j e, st => okO (raiE st) fun (x, a, _, _, _) => glB sc x && decide (c.exs[j]? = some x) && ckE c sc e a
  | .tryR f es j d, .Try b hs [] [] _ => okO (retC b) fun (x, ls, _, _, _) => okO (hdE hs) fun (y, sb, _, _) => okO (retK sb) fun (k, _, _, _) =>
      glB sc x && decide (c.fns[f]? = some x) && decide (f < mB) && ckEs c sc es ls && glB sc y && decide (c.exs[j]? = some y) && conK d k && !ls.isEmpty
  | _, _ => false
def ckSs (c : Sc) (sc : Scope) : List Mu.S → List Stmt → Bool
  | [], [] => true
  | s :: ss, t :: ts => ckS c sc s t && ckSs c sc ss ts
  | _, _ => false
end

/-! ### the state of a def's body -/
def Bd (ρ : Rho) (n : Nat) : Prop := ∀ i j : Nat, ρ[i]? = some (some (.p j)) → j < n
structure At (K : PySem.W.Frag) (S : ST) (O : OF) (Fr : Hp) (M : Nat → Addr) (G H : Hp) (μ : Store) (ρ : Rho) (σ : L2.St) : Prop where
  ss : SS K S Fr M G H μ
  rr : RR K S O M G ρ σ
  bd : Bd ρ μ.length
def Xt (M : Nat → Addr) (n : Nat) (M' : Nat → Addr) (n' : Nat) : Prop := (∀ i, i < n → M' i = M i) ∧ n ≤ n'
theorem Xt.rf (M : Nat → Addr) (n : Nat) : Xt M n M n := ⟨fun _ _ => rfl, Nat.le_refl _⟩
theorem Xt.tr {M M1 M2 : Nat → Addr} {n n1 n2 : Nat} (a : Xt M n M1 n1) (b : Xt M1 n1 M2 n2) : Xt M n M2 n2 :=
  ⟨fun i h => (b.1 i (Nat.lt_of_lt_of_le h a.2)).trans (a.1 i h), Nat.le_trans a.2 b.2⟩
theorem Xt.eq (M : Nat → Addr) {n n' : Nat} (h : n' = n) : Xt M n M n' := ⟨fun _ _ => rfl, by omega⟩
theorem Bd.set {ρ : Rho} {n : Nat} {i : Nat} {v : Val} {μ : Store} (h : Bd ρ n) (hv : bdV μ v = true) (hn : n = μ.length) : Bd (ρ.set i (some v)) n := fun a j e => by
  by_cases q : i = a
  · subst q
    rw [List.getElem?_set] at e
    split at e
    · split at e
      · cases e
        simp only [bdV, decide_eq_true_eq] at hv
        omega
      · cases e
    · exact h _ j e
  · rw [List.getElem?_set_ne q] at e
    exact h a j e
theorem Bd.setO {ρ : Rho} {n : Nat} {i j : Nat} {js : List Nat} (h : Bd ρ n) : Bd (ρ.set i (some (.o j js))) n := fun a j e => by
  by_cases q : i = a
  · subst q
    rw [List.getElem?_set] at e
    split at e
    · split at e
      · cases e
      · cases e
    · exact h _ j e
  · rw [List.getElem?_set_ne q] at e
    exact h a j e
theorem Bd.le {ρ : Rho} {n m : Nat} (h : Bd ρ n) (l : n ≤ m) : Bd ρ m := fun i j e => Nat.lt_of_lt_of_le (h i j e) l
theorem bdV_d (μ : Store) (x : D) : bdV μ (.d x) = true := rfl
theorem Bd.setAll : ∀ {is : List Nat} {ds : List D} {ρ ρ1 : Rho} {n : Nat}, Bd ρ n → Mu.setAll ρ is ds = some ρ1 → Bd ρ1 n
  | [], [], ρ, ρ1, n, h, e => by simp only [Mu.setAll, Option.some.injEq] at e; subst e; exact h
  | [], _ :: _, _, _, _, _, e => by simp [Mu.setAll] at e
  | _ :: _, [], _, _, _, _, e => by simp [Mu.setAll] at e
  | i :: is, d :: ds, ρ, ρ1, n, h, e => by
    simp only [Mu.setAll] at e
    exact Bd.setAll (h.set (μ := List.replicate n none) (bdV_d _ d) (by simp)) e
theorem Bd.tg {tg : Tg} {d : D} {ρ ρ1 : Rho} {n : Nat} (h : Bd ρ n) (e : tgS ρ tg d = some ρ1) : Bd ρ1 n := by
  cases tg with
  | nm i => simp only [tgS, Option.some.injEq] at e; subst e; exact h.set (μ := List.replicate n none) (bdV_d _ d) (by simp)
  | tp is =>
    cases d with
    | tuple xs => exact Bd.setAll h e
    | _ => simp [tgS] at e
theorem RR.reM {K : PySem.W.Frag} {M M' : Nat → Addr} {G : Hp} {ρ : Rho} {σ : L2.St} {n : Nat} (h : RR K S O M G ρ σ) (b : Bd ρ n) (e : ∀ i, i < n → M' i = M i) : RR K S O M' G ρ σ := by
  refine ⟨h.len, fun i w q => ?_⟩
  obtain ⟨v, a, r⟩ := h.at_ i w q
  refine ⟨v, a, ?_⟩
  cases r with
  | d r => exact .d r
  | p j => rw [← e j (b i j q)]; exact .p j
  | c h => exact .c h
  | o h hc w => exact .o h hc w

abbrev SF := Rho → Store → Option (Flow × RS)
abbrev WJ := Nat → L2.St → Hp → Prop
def EndsOk (K : PySem.W.Frag) (S : ST) (O : OF) (W : WJ) (M : Nat → Addr) (G : Hp) (Dn : Ends) (fl : Flow) (σ : L2.St) (H : Hp) : Prop :=
  match fl with
  | .nx => Dn.nx σ H
  | .bk => Dn.bk σ H
  | .ct => Dn.ct σ H
  | .xc j => W j σ H
  | .ret w => ∀ v, RV K S O M G v w → Dn.rt v H
def tvS (K : PySem.W.Frag) (S : ST) (O : OF) (W : WJ) (f : SF) : TS := fun Dn σ H => ∃ (Fr : Hp) (M : Nat → Addr) (G : Hp) (ρ : Rho) (μ : Store) (fl : Flow) (ρ' : Rho) (μ' : Store), At K S O Fr M G H μ ρ σ ∧ f ρ μ = some (fl, ρ', μ') ∧
  ∀ σ' H' G' M', Le G G' → At K S O Fr M' G' H' μ' ρ' σ' → Xt M μ.length M' μ'.length → EndsOk K S O W M' G' Dn fl σ' H'
variable {X : Cx} {W : WJ}
theorem _root_.L2.PS.wk {st : Stmt} {t t' : TS} (h : PS X st t) (w : ∀ Dn σ H, t' Dn σ H → t Dn σ H) : PS X st t' := ⟨fun pins s σ H Dn I q => h.run pins s σ H Dn I (w Dn σ H q)⟩
theorem _root_.L2.PSs.wk {st : List Stmt} {t t' : TS} (h : PSs X st t) (w : ∀ Dn σ H, t' Dn σ H → t Dn σ H) : PSs X st t' := ⟨fun pins s σ H Dn I q => h.run pins s σ H Dn I (w Dn σ H q)⟩
theorem loc_of {sc : Scope} {x : Str} (h : locB sc x = true) : L2.Loc sc x := by
  simp only [locB, Bool.or_eq_true, decide_eq_true_eq] at h
  exact h
theorem swaps_no {e : Expr} {t : Option Expr} {l : Nat} {env : Env} (h : isComp e = false) : swapsWith e t l env = pure false := by
  cases e <;> first | rfl | cases h
theorem kind_cell {env : Env} {x : Str} (h : cellB env.scope x = true) : (env.kindOf x == some NameKind.local) = false := by
  simp only [cellB, decide_eq_true_eq] at h
  unfold Env.kindOf
  rw [h]
  rfl
theorem swaps_cell {e : Expr} {x : Str} {py : Pos} {l : Nat} {env : Env} (h : cellB env.scope x = true) : swapsWith e (some (.Name x py)) l env = pure false := by
  have k := kind_cell h
  cases e <;> first | rfl | (unfold swapsWith; simp only [k, Bool.and_false, Bool.false_and] <;> rfl)
theorem pair_no {ts : List Expr} {v : Expr} {k : Nat} {p : Pos} {env : Env} (h : pairC env.scope ts v = true) : swappedStores [.Tuple ts k p] v env = pure none ∧ swapsWithSole [.Tuple ts k p] v p.line env = pure false := by
  unfold pairC at h
  split at h
  · rename_i x px y py vs k2 p2
    refine ⟨?_, rfl⟩
    rw [Bool.or_eq_true] at h
    have key : ∀ a b : Str, ∀ pa pb : Pos, (cellB env.scope a || cellB env.scope b) = true → ∀ line : Nat, ((([Expr.Name a pa, Expr.Name b pb].filterMap fun
      | .Name id pos => if env.kindOf id == some .local && pos.line == line then some id else none
      | _ => none).length != 2) = true) := fun a b pa pb q line => by
      simp only [Bool.or_eq_true] at q
      simp only [List.filterMap_cons, List.filterMap_nil]
      rcases q with q | q
      · rw [kind_cell q]
        simp only [Bool.false_and]
        cases (env.kindOf b == some NameKind.local && pb.line == line) <;> rfl
      · rw [kind_cell q]
        simp only [Bool.false_and]
        cases (env.kindOf a == some NameKind.local && pa.line == line) <;> rfl
    unfold swappedStores
    dsimp only
    split
    · rfl
    · split
      · rfl
      · rcases h with h | h
        · have q := key x y px py h (((([Expr.Name x px, Expr.Name y py].head?).map (·.pos.line)).getD 0))
          rw [if_pos]
          rw [Bool.or_eq_true]
          exact .inl q
        · split
          · rfl
          · first
              | rfl
              | (rw [if_pos h]; rfl)
  · cases h
/-- an own class of exceptions -/
structure ExOk (K : PySem.W.Frag) (mg : Str → Option Value) (x : Str) : Prop where
  ex : ∃ C : Addr, mg x = some (.ref C) ∧ PySem.W.excIn K C [.type "ValueError", .type "Exception", .type "BaseException", .type "object"] "ValueError.__new__" = true ∧ PySem.W.keepIn K (.ref C) = true ∧ PySem.W.subIn K (.ref C) (.type "BaseException") = some true ∧
    PySem.W.typeIn K (.ref C) = some (.type "type") ∧ PySem.W.hasDictIn K C = true ∧ PySem.W.subIn K (.ref C) (.ref C) = some true
def wxOf (c : Sc) (mg : Str → Option Value) (W : WJ) : WX := fun cls d σ H => d = none ∧ ∃ j x C, c.exs[j]? = some x ∧ mg x = some (.ref C) ∧ cls = .ref C ∧ W j σ H
structure Body (X : Cx) (S : ST) (O : OF) (c : Sc) (C : Cons) (k : Nat) (F : Calls) (W : WJ) : Prop extends Good X S O c C k F where
  tk : Takes X (wxOf c X.mg W)
  exo : ∀ (j : Nat) (x : Str), c.exs[j]? = some x → ExOk X.K X.mg x
  stk : X.stack = X.env :: X.outer
  frm : X.env.frame = some X.env.locals
  fn : ∀ x, locB X.env.scope x = true → X.fn x = true ∨ X.env.scope.names.lookup x = some .local
  pown : PassesOwn (model X.prog X.w) X.A X.env X.xe
  knd : X.env.scope.kind = .function
theorem Body.fnl (b : Body X S O c C k F W) {x : Str} (h : locB X.env.scope x = true) : X.fn x = true ∨ X.env.scope.names.lookup x = some .local := b.fn x h

theorem s_set_go {i : Nat} {m : E} {Dn : Ends} {σ : L2.St} {H : Hp} (q : tvS X.K S O W (evS C F (.set i m)) Dn σ H) : tAsg (tv X.K S O (evE C F m)) (gName i) Dn σ H := by
  obtain ⟨Fr, M, G, ρ, μ, fl, ρ', μ', a, e, q⟩ := q
  simp only [evS] at e
  obtain ⟨⟨v, μ1⟩, e1, e⟩ := bnd e
  split at e
  · rename_i hb
    cases e
    exact tv_go a.ss a.rr e1 fun x H1 G1 l1 s1 n1 r1 => q (σ.set i (some x)) H1 G1 M l1 ⟨s1, (a.rr.mono l1).set r1, by rw [n1]; exact a.bd.set hb n1.symm⟩ (.eq M n1)
  · cases e
theorem s_set (b : Body X S O c C k F W) {i : Nat} {x : Str} {m : E} {v : Expr} {py pos : Pos} (hN : c.N[i]? = some x) (hl : locB X.env.scope x = true) (h : PE X v (tv X.K S O (evE C F m))) (hc : isComp v = false ∨ cellB X.env.scope x = true) : PS X (.Assign [.Name x py] v pos) (tvS X.K S O W (evS C F (.set i m))) :=
  (ps_set b.nd (by rw [b.N]; exact hN) (loc_of hl) h (hc.elim swaps_no swaps_cell) (b.fnl hl)).wk fun _ _ _ q => s_set_go q
theorem s_setM_go {i : Nat} {m : E} {Dn : Ends} {σ : L2.St} {H : Hp} (q : tvS X.K S O W (evS C F (.setM i m)) Dn σ H) : tAsg (tvN X.K S O (evE C F m)) (gName i) Dn σ H := by
  obtain ⟨Fr, M, G, ρ, μ, fl, ρ', μ', a, e, q⟩ := q
  simp only [evS] at e
  obtain ⟨⟨v, μ1⟩, e1, e⟩ := bnd e
  dsimp only at e
  split at e
  · rename_i xs
    cases e
    refine ⟨Fr, M, G, ρ, μ, xs, μ1, a.ss, a.rr, e1, fun p vs H1 G1 l1 s1 n1 hp gp fp mp r1 z => ?_⟩
    have em : ∀ j, j < μ1.length → (fun j => if j = μ1.length then p else M j) j = M j := fun j hj => if_neg (Nat.ne_of_lt hj)
    have bd1 : Bd ρ μ1.length := by rw [n1]; exact a.bd
    have rr1 : RR X.K S O (fun j => if j = μ1.length then p else M j) G1 ρ σ := (a.rr.mono l1).reM bd1 em
    have rv : RV X.K S O (fun j => if j = μ1.length then p else M j) G1 (.ref p) (.p μ1.length) := by
      have := RV.p (K := X.K) (S := S) (O := O) (M := fun j => if j = μ1.length then p else M j) (G := G1) μ1.length
      simpa using this
    refine q (σ.set i (some (.ref p))) H1 G1 _ l1 ⟨s1.thaw hp gp mp fp r1 z, rr1.set rv, ?_⟩ ⟨fun j hj => em j (by omega), by simp; omega⟩
    refine Bd.set (μ := μ1 ++ [some xs]) (bd1.le (by simp)) ?_ rfl
    simp [bdV]
  · cases e
theorem s_setM (b : Body X S O c C k F W) {i : Nat} {x : Str} {m : E} {v : Expr} {py pos : Pos} (hN : c.N[i]? = some x) (hl : locB X.env.scope x = true) (h : PE X v (tvN X.K S O (evE C F m))) (hc : isComp v = false ∨ cellB X.env.scope x = true) : PS X (.Assign [.Name x py] v pos) (tvS X.K S O W (evS C F (.setM i m))) :=
  (ps_set b.nd (by rw [b.N]; exact hN) (loc_of hl) h (hc.elim swaps_no swaps_cell) (b.fnl hl)).wk fun _ _ _ q => s_setM_go q
theorem s_unp (b : Body X S O c C k F W) {is : List Nat} {m : E} {ts : List Expr} {v : Expr} {j : Nat} {p pos : Pos} (ht : ckNms c.N X.env.scope (fun _ => true) is ts = true) (h : PE X v (tv X.K S O (evE C F m))) (hv : notTup v = true ∨ pairC X.env.scope ts v = true) : PS X (.Assign [.Tuple ts j p] v pos) (tvS X.K S O W (evS C F (.unp is m))) := by
  have pg : PG X (.Tuple ts j p) (gOf X.K (.tp is)) := ckTg_pg (tg := .tp is) (e := .Tuple ts j p) ht b.N b.nd b.calm fun x hl _ => b.fn x hl
  refine (ps_asg h pg (hv.elim (fun hv => by cases v <;> first | rfl | cases hv) fun hv => (pair_no (k := j) (p := pos) hv).2) (hv.elim (fun hv => by cases v <;> first | rfl | cases hv) fun hv => (pair_no (k := j) (p := p) hv).1) rfl).wk fun Dn σ H q => ?_
  obtain ⟨Fr, M, G, ρ, μ, fl, ρ', μ', a, e, q⟩ := q
  simp only [evS] at e
  obtain ⟨⟨w, μ1⟩, e1, e⟩ := bnd e
  dsimp only at e
  split at e
  · rename_i d
    obtain ⟨ρ1, e2, e⟩ := bnd e
    cases e
    refine tv_go a.ss a.rr e1 fun x H1 G1 l1 s1 n1 r1 => ?_
    cases r1 with
    | d r1 =>
      refine tg_go s1 (a.rr.mono l1) r1 e2 fun σ1 rr1 _ => q σ1 H1 G1 M l1 ⟨s1, rr1, by rw [n1]; exact a.bd.tg e2⟩ (.eq M n1)
  · cases e
theorem s_aug (b : Body X S O c C k F W) {i : Nat} {x : Str} {m : E} {o : BOp} {v : Expr} {p pos : Pos} (ho : addSub o = true) (hN : c.N[i]? = some x) (hl : locB X.env.scope x = true) (h : PE X v (tv X.K S O (evE C F m))) :
    PS X (.AugAssign (.Name x p) o.op v pos) (tvS X.K S O W (evS C F (.aug i o m))) := by
  have pip : PIp X o.op (fun x y H Q => ∃ i j z, x = .int i ∧ y = .int j ∧ bopD o (.int i) (.int j) = some (.int z) ∧ Q (.int z) H) := by
    intro pins s σ H x y v u Q I rx ry h
    obtain ⟨i, j, z, rfl, rfl, e, q⟩ := h
    cases o with
    | add => simp only [bopD, Option.some.injEq, PyData.int.injEq] at e; subst e; exact iop_add pins s σ H _ _ v u Q I rx ry ⟨i, j, rfl, rfl, q⟩
    | sub => simp only [bopD, Option.some.injEq, PyData.int.injEq] at e; subst e; exact iop_sub pins s σ H _ _ v u Q I rx ry ⟨i, j, rfl, rfl, q⟩
    | _ => cases ho
  refine (ps_aug b.nd (by rw [b.N]; exact hN) (loc_of hl) h pip (b.fnl hl)).wk fun Dn σ H q => ?_
  obtain ⟨Fr, M, G, ρ, μ, fl, ρ', μ', a, e, q⟩ := q
  simp only [evS] at e
  split at e
  · rename_i x0 hw
    obtain ⟨⟨y, μ1⟩, e1, e⟩ := bnd e
    dsimp only at e
    split at e
    · rename_i z hz
      cases e
      obtain ⟨u, hu, ru⟩ := a.rr.at_ i _ hw
      cases ru with
      | d ru =>
        cases ru
        refine ⟨_, hu, tv_go a.ss a.rr (toI_some e1) fun x H1 G1 l1 s1 n1 r1 => ?_⟩
        cases r1 with
        | d r1 =>
          cases r1
          exact ⟨x0, y, z, rfl, rfl, hz, q _ H1 G1 M l1 ⟨s1, (a.rr.mono l1).set (.d (.int _)), by rw [n1]; exact a.bd.set (bdV_d μ _) rfl⟩ (.eq M n1)⟩
    · cases e
  · cases e
theorem s_augT (b : Body X S O c C k F W) {i : Nat} {x : Str} {es : Es} {v : Expr} {p pos : Pos} (hN : c.N[i]? = some x) (hl : locB X.env.scope x = true) (h : PE X v (tv X.K S O (evE C F (.tup es)))) :
    PS X (.AugAssign (.Name x p) .Add v pos) (tvS X.K S O W (evS C F (.set i (.bop .add (.var i) (.tup es))))) := by
  have pip : PIp X .Add (rCatA X.K) := iop_catA
  refine (ps_aug b.nd (by rw [b.N]; exact hN) (loc_of hl) h pip (b.fnl hl)).wk fun Dn σ H q => ?_
  obtain ⟨Fr, M, G, ρ, μ, fl, ρ', μ', a, e, q⟩ := q
  simp only [evS] at e
  obtain ⟨⟨r, μr⟩, e1, e⟩ := bnd e
  have eb : evE C F (.bop .add (.var i) (.tup es)) ρ μ = (evE C F (.var i) ρ μ).bind fun x => (evE C F (.tup es) ρ x.2).bind fun y => rd2 y.2 x.1 y.1 (bopD .add) := by simp only [evE]
  rw [eb] at e1
  obtain ⟨⟨w1, m1⟩, e2, e1⟩ := bnd e1
  obtain ⟨⟨w2, m2⟩, e3, e1⟩ := bnd e1
  simp only [evE] at e2
  split at e2
  · rename_i w0 hw
    cases e2
    dsimp only at e1 e3
    have et : evE C F (.tup es) ρ μ = (evEs C F es ρ μ).bind fun x => some (.d (.tuple x.1), x.2) := by simp only [evE]
    have e3' := e3
    rw [et] at e3
    obtain ⟨⟨ys, m3⟩, _, e3⟩ := bnd e3
    cases e3
    obtain ⟨d1, d2, z, g1, g2, g3, rfl, rfl⟩ := rd2_some e1
    dsimp only at g1 g2 e
    simp only [deref, Option.some.injEq] at g2
    subst g2
    rw [if_pos (bdV_d _ _)] at e
    cases e
    obtain ⟨u0, hu, _⟩ := a.rr.at_ i _ hw
    refine ⟨_, hu, tv_go a.ss a.rr e3' fun x H1 G1 l1 s1 n1 r1 => ?_⟩
    obtain ⟨u1, hu1, ru⟩ := (a.rr.mono l1).at_ i _ hw
    rw [hu] at hu1
    cases hu1
    have k : ∀ (v : V) (H' : Hp) (G' : Hp), Le G1 G' → SS X.K S Fr M G' H' μ' → Rp X.K G' v z → Dn.nx (σ.set i (some v)) H' := fun v H' G' le s' r' =>
      q _ H' G' M (l1.trans le) ⟨s', ((a.rr.mono l1).mono le).set (.d r'), by rw [n1]; exact a.bd.set (bdV_d μ _) rfl⟩ (.eq M n1)
    cases d1 with
    | tuple xs =>
      simp only [bopD] at g3
      split at g3
      · rename_i hz
        cases g3
        obtain ⟨a', vs, rfl, h1, q1, z1⟩ := s1.rdT ru g1
        obtain ⟨b', ws, rfl, h2, q2, z2⟩ := s1.rdT (w := .d (.tuple ys)) r1 rfl
        have l1' := q1.length
        have l2' := q2.length
        refine ⟨a', b', vs, ws, rfl, rfl, h1, h2, by omega, fun e => ?_, fun _ e => ?_, fun _ _ p hp => ?_⟩
        · subst e
          cases q1
          cases r1 with
          | d r1 => exact k _ H1 G1 (Le.rfl' _) s1 r1
        · subst e
          cases q2
          rw [List.append_nil] at k
          cases w1 with
          | d x2 =>
            simp only [deref, Option.some.injEq] at g1
            subst g1
            cases ru with
            | d ru => exact k _ H1 G1 (Le.rfl' _) s1 ru
          | p i => unfold deref at g1; simp only at g1; split at g1 <;> cases g1
          | c _ => cases g1
          | o _ _ => cases g1
        · obtain ⟨G', le, s', r'⟩ := s1.tup hp (q1.append q2) (by rw [List.length_append]; exact hz)
          exact k _ _ G' le s' r'
      · cases g3
    | _ => simp [bopD] at g3
  · cases e2
theorem sw_par {x y : Str} {px py p1 p2 : Pos} {k1 k2 : Nat} {e d : Expr} {env : Env} (hk : env.scope.kind = .function) (h : parB env.scope x y px py e d = true) :
    swappedStores [.Tuple [.Name x px, .Name y py] k1 p1] (.Tuple [e, d] k2 p2) env = pure (some [x, y]) ∧ swapsWithSole [.Tuple [.Name x px, .Name y py] k1 p1] (.Tuple [e, d] k2 p2) p1.line env = pure false := by
  simp only [parB, Bool.and_eq_true, decide_eq_true_eq, Bool.not_eq_true'] at h
  obtain ⟨⟨⟨⟨⟨⟨⟨h1, h2⟩, h3⟩, h4⟩, h5⟩, h6⟩, h7⟩, h8⟩ := h
  refine ⟨?_, rfl⟩
  have hb : env.blockKind = .function := by
    unfold Env.blockKind
    rw [hk]
    rfl
  have k1' : (env.kindOf x == some NameKind.local) = true := by
    unfold Env.kindOf
    rw [h1]
    rfl
  have k2' : (env.kindOf y == some NameKind.local) = true := by
    unfold Env.kindOf
    rw [h2]
    rfl
  have h3' : (y == x) = false := by
    cases q : y == x with
    | false => rfl
    | true =>
      have := eq_of_beq q
      subst this
      rw [beq_self_eq_true] at h3
      cases h3
  have dd : ([x, y] : List Str).eraseDups.length = 2 := by
    rw [List.eraseDups_cons]
    simp [h3', List.eraseDups_cons]
  unfold swappedStores
  simp only [hb, List.length_cons, List.length_nil, List.any_cons, List.any_nil, List.head?_cons, Option.map_some, Option.getD_some, Expr.pos, List.filterMap_cons, List.filterMap_nil, k1', k2', h4, beq_self_eq_true, Bool.and_self, if_true, h7, h8, dd]
  rw [if_neg (by decide), if_neg ?_]
  · rfl
  · intro q
    simp only [Bool.or_eq_true, Bool.false_eq_true, or_false] at q
    rcases q with q | q
    · cases e <;> first | exact absurd q Bool.false_ne_true | exact absurd h5 Bool.false_ne_true
    · cases d <;> first | exact absurd q Bool.false_ne_true | exact absurd h6 Bool.false_ne_true
theorem s_par (b : Body X S O c C k F W) {i j : Nat} {x y : Str} {m n : E} {e d : Expr} {px py p1 p2 pos : Pos} {k1 k2 : Nat} (hi : c.N[i]? = some x) (hj : c.N[j]? = some y) (hij : i ≠ j) (hp : parB X.env.scope x y px py e d = true)
    (h : PA X [e, d] (tvV X.K S O (evVs C F (.cons m (.cons n .nil))))) : PS X (.Assign [.Tuple [.Name x px, .Name y py] k1 p1] (.Tuple [e, d] k2 p2) pos) (tvS X.K S O W (evS C F (.par i j m n))) := by
  have hp' := hp
  simp only [parB, Bool.and_eq_true, decide_eq_true_eq] at hp'
  refine (ps_par b.calm b.nd (by rw [b.N]; exact hi) (by rw [b.N]; exact hj) hij hp'.1.1.1.1.1.1.1 hp'.1.1.1.1.1.1.2 h (sw_par b.knd hp).1 rfl).wk fun Dn σ H q => ?_
  obtain ⟨Fr, M, G, ρ, μ, fl, ρ', μ', a, e, q⟩ := q
  simp only [evS] at e
  obtain ⟨⟨v, μ1⟩, e1, e⟩ := bnd e
  obtain ⟨⟨w, μ2⟩, e2, e⟩ := bnd e
  dsimp only at e e2
  split at e
  · rename_i hb
    cases e
    refine ⟨Fr, M, G, ρ, μ, [v, w], μ', a.ss, a.rr, by simp only [evVs, e1, e2, Option.bind_some], fun vs H1 G1 l1 s1 n1 r1 => ?_⟩
    cases r1 with
    | cons ra rt =>
      cases rt with
      | cons rb rn =>
        cases rn
        refine ⟨_, _, rfl, q _ H1 G1 M l1 ⟨s1, ((a.rr.mono l1).set ra).set rb, ?_⟩ (.eq M n1)⟩
        rw [n1]
        exact (a.bd.set hb.1 n1.symm).set hb.2 n1.symm
  · cases e
theorem sw_par3 {x y z : Str} {px py pz p1 p2 : Pos} {k1 k2 : Nat} {e d g : Expr} {env : Env} (hk : env.scope.kind = .function) (h : par3B env.scope x y z px py pz e d g = true) :
    swappedStores [.Tuple [.Name x px, .Name y py, .Name z pz] k1 p1] (.Tuple [e, d, g] k2 p2) env = pure (some [x, y, z]) := by
  simp only [par3B, Bool.and_eq_true, decide_eq_true_eq, Bool.not_eq_true'] at h
  obtain ⟨⟨⟨⟨⟨⟨⟨⟨⟨⟨h1, h2⟩, h3⟩, dd⟩, h4⟩, h4'⟩, h5⟩, h6⟩, h6'⟩, h7⟩, h8⟩ := h
  have hb : env.blockKind = .function := by
    unfold Env.blockKind
    rw [hk]
    rfl
  have k1' : (env.kindOf x == some NameKind.local) = true := by
    unfold Env.kindOf
    rw [h1]
    rfl
  have k2' : (env.kindOf y == some NameKind.local) = true := by
    unfold Env.kindOf
    rw [h2]
    rfl
  have k3' : (env.kindOf z == some NameKind.local) = true := by
    unfold Env.kindOf
    rw [h3]
    rfl
  unfold swappedStores
  simp only [hb, List.length_cons, List.length_nil, List.any_cons, List.any_nil, List.head?_cons, Option.map_some, Option.getD_some, Expr.pos, List.filterMap_cons, List.filterMap_nil, k1', k2', k3', h4, h4', beq_self_eq_true, Bool.and_self, if_true, h7, h8, dd]
  rw [if_neg (by decide), if_neg ?_]
  · rfl
  · intro q
    simp only [Bool.or_eq_true, Bool.false_eq_true, or_false] at q
    rcases q with q | q | q
    · cases e <;> first | exact absurd q Bool.false_ne_true | exact absurd h5 Bool.false_ne_true
    · cases d <;> first | exact absurd q Bool.false_ne_true | exact absurd h6 Bool.false_ne_true
    · cases g <;> first | exact absurd q Bool.false_ne_true | exact absurd h6' Bool.false_ne_true
theorem s_par3 (b : Body X S O c C k F W) {i j l : Nat} {x y z : Str} {m n r : E} {e d g : Expr} {px py pz p1 p2 pos : Pos} {k1 k2 : Nat} (hi : c.N[i]? = some x) (hj : c.N[j]? = some y) (hl : c.N[l]? = some z) (hij : i ≠ j) (hil : i ≠ l) (hjl : j ≠ l) (hp : par3B X.env.scope x y z px py pz e d g = true)
    (h : PA X [e, d, g] (tvV X.K S O (evVs C F (.cons m (.cons n (.cons r .nil)))))) : PS X (.Assign [.Tuple [.Name x px, .Name y py, .Name z pz] k1 p1] (.Tuple [e, d, g] k2 p2) pos) (tvS X.K S O W (evS C F (.par3 i j l m n r))) := by
  have hp' := hp
  simp only [par3B, Bool.and_eq_true, decide_eq_true_eq] at hp'
  obtain ⟨⟨⟨⟨⟨⟨⟨⟨⟨⟨h1, h2⟩, h3⟩, _⟩, _⟩, _⟩, _⟩, _⟩, _⟩, _⟩, _⟩ := hp'
  refine (ps_par3 b.calm b.nd (by rw [b.N]; exact hi) (by rw [b.N]; exact hj) (by rw [b.N]; exact hl) hij hil hjl h1 h2 h3 h (sw_par3 b.knd hp) rfl).wk fun Dn σ H q => ?_
  obtain ⟨Fr, M, G, ρ, μ, fl, ρ', μ', a, e, q⟩ := q
  simp only [evS] at e
  obtain ⟨⟨v, μ1⟩, e1, e⟩ := bnd e
  obtain ⟨⟨w, μ2⟩, e2, e⟩ := bnd e
  obtain ⟨⟨u, μ3⟩, e3, e⟩ := bnd e
  dsimp only at e e2 e3
  split at e
  · rename_i hb
    cases e
    refine ⟨Fr, M, G, ρ, μ, [v, w, u], μ', a.ss, a.rr, by simp only [evVs, e1, e2, e3, Option.bind_some], fun vs H1 G1 l1 s1 n1 r1 => ?_⟩
    cases r1 with
    | cons ra rt =>
      cases rt with
      | cons rb rn =>
        cases rn with
        | cons rc rn =>
          cases rn
          refine ⟨_, _, _, rfl, q _ H1 G1 M l1 ⟨s1, (((a.rr.mono l1).set ra).set rb).set rc, ?_⟩ (.eq M n1)⟩
          rw [n1]
          exact ((a.bd.set hb.1 n1.symm).set hb.2.1 n1.symm).set hb.2.2 n1.symm
  · cases e
theorem s_ret {m : E} {v : Expr} {pos : Pos} (h : PE X v (tv X.K S O (evE C F m))) : PS X (.Return (some v) pos) (tvS X.K S O W (evS C F (.ret m))) := by
  refine (ps_ret h).wk fun Dn σ H q => ?_
  obtain ⟨Fr, M, G, ρ, μ, fl, ρ', μ', a, e, q⟩ := q
  simp only [evS] at e
  obtain ⟨⟨w, μ1⟩, e1, e⟩ := bnd e
  cases e
  exact tv_go a.ss a.rr e1 fun x H1 G1 l1 s1 n1 r1 => q σ H1 G1 M l1 ⟨s1, a.rr.mono l1, by rw [n1]; exact a.bd⟩ (.eq M n1) x r1
theorem s_retM {m : E} {v : Expr} {pos : Pos} (h : PE X v (tvN X.K S O (evE C F m))) : PS X (.Return (some v) pos) (tvS X.K S O W (evS C F (.retM m))) := by
  refine (ps_ret h).wk fun Dn σ H q => ?_
  obtain ⟨Fr, M, G, ρ, μ, fl, ρ', μ', a, e, q⟩ := q
  simp only [evS] at e
  obtain ⟨⟨v, μ1⟩, e1, e⟩ := bnd e
  dsimp only at e
  split at e
  · rename_i xs
    cases e
    refine ⟨Fr, M, G, ρ, μ, xs, μ1, a.ss, a.rr, e1, fun p vs H1 G1 l1 s1 n1 hp gp fp mp r1 z => ?_⟩
    have em : ∀ j, j < μ1.length → (fun j => if j = μ1.length then p else M j) j = M j := fun j hj => if_neg (Nat.ne_of_lt hj)
    have bd1 : Bd ρ μ1.length := by rw [n1]; exact a.bd
    have rr1 : RR X.K S O (fun j => if j = μ1.length then p else M j) G1 ρ σ := (a.rr.mono l1).reM bd1 em
    have rv : RV X.K S O (fun j => if j = μ1.length then p else M j) G1 (.ref p) (.p μ1.length) := by
      have := RV.p (K := X.K) (S := S) (O := O) (M := fun j => if j = μ1.length then p else M j) (G := G1) μ1.length
      simpa using this
    exact q σ H1 G1 _ l1 ⟨s1.thaw hp gp mp fp r1 z, rr1, bd1.le (by simp)⟩ ⟨fun j hj => em j (by omega), by simp; omega⟩ _ rv
  · cases e
theorem s_retN {pos : Pos} : PS X (.Return none pos) (tvS X.K S O W (evS C F .retN)) := by
  refine PS.wk ps_retN fun Dn σ H q => ?_
  obtain ⟨Fr, M, G, ρ, μ, fl, ρ', μ', a, e, q⟩ := q
  simp only [evS] at e
  cases e
  exact q σ H G M (Le.rfl' _) a (.rf _ _) _ (.d .non)
theorem s_drop {m : E} {v : Expr} {pos : Pos} (h : PE X v (tv X.K S O (evE C F m))) (hc : isComp v = false) : PS X (.Expr v pos) (tvS X.K S O W (evS C F (.drop m))) := by
  refine (ps_expr h (swaps_no hc)).wk fun Dn σ H q => ?_
  obtain ⟨Fr, M, G, ρ, μ, fl, ρ', μ', a, e, q⟩ := q
  simp only [evS] at e
  obtain ⟨⟨w, μ1⟩, e1, e⟩ := bnd e
  cases e
  exact tv_go a.ss a.rr e1 fun x H1 G1 l1 s1 n1 r1 => q σ H1 G1 M l1 ⟨s1, a.rr.mono l1, by rw [n1]; exact a.bd⟩ (.eq M n1)
theorem SS.app {K : PySem.W.Frag} {Fr : Hp} {M : Nat → Addr} {G H : Hp} {μ μ3 : Store} {i : Nat} {y : D} {u : V} (s : SS K S Fr M G H μ) (r : Rp K G u y) (e : appV μ (.p i) y = some μ3) :
    ∃ G', G' = G ∧ (∃ vs, H (M i) = some (.lst vs) ∧ vs.length < sizeLine ∧ SS K S Fr M G (upd H (M i) (.lst (vs ++ [u]))) μ3) ∧ μ3.length = μ.length := by
  simp only [appV] at e
  split at e
  · rename_i xs hx
    split at e
    · rename_i hz
      cases e
      obtain ⟨vs, h1, h2, z3⟩ := s.cell i xs hx
      exact ⟨G, rfl, ⟨vs, h1, by rw [h2.length]; exact hz, s.put hx (h2.append (.cons r .nil)) (by simp; omega)⟩, by rw [List.length_set]⟩
    · cases e
  · cases e
theorem SS.putV {K : PySem.W.Frag} {Fr : Hp} {M : Nat → Addr} {G H : Hp} {μ μ3 : Store} {i : Nat} {y : D} {u : V} {k : Int} (s : SS K S Fr M G H μ) (r : Rp K G u y) (e : Mu.putV μ (.p i) k y = some μ3) :
    (∃ vs j, H (M i) = some (.lst vs) ∧ ixN vs.length k = some j ∧ SS K S Fr M G (upd H (M i) (.lst (vs.set j u))) μ3) ∧ μ3.length = μ.length := by
  simp only [Mu.putV] at e
  split at e
  · rename_i xs hx
    obtain ⟨m, e1, rfl⟩ := Option.map_eq_some_iff.mp e
    obtain ⟨vs, h1, h2, z3⟩ := s.cell i xs hx
    exact ⟨⟨vs, m, h1, by rw [h2.length]; exact e1, s.put hx (h2.set m r) (by rw [List.length_set]; exact z3)⟩, by rw [List.length_set]⟩
  · cases e
theorem s_app {x : Str} {ma m : E} {v : Expr} {xp ap pos p : Pos} (hl : (ap.endLine == pos.line) = true) (ha : PE X (.Name x xp) (tv X.K S O (evE C F ma))) (h : PE X v (tv X.K S O (evE C F m))) (pv : plainX v = true) :
    PS X (.Expr (.Call (.Attribute (.Name x xp) "append" ap) [v] [] pos) p) (tvS X.K S O W (evS C F (.app ma m))) := by
  have hs : starEach [v] X.env = (false, eval v X.env) :: starEach [] X.env := star_of pv
  have p1 := pe_bm (apos := ap) (cpos := pos) PySem.F.plainAttrs_list PySem.F.slot_list_append PySem.F.type_list_append mt_append ha (pa_cons h pa_nil hs) rfl (by rw [hs]; rfl) hl hs rfl
  refine (ps_expr (pos := p) p1 rfl).wk fun Dn σ H q => ?_
  obtain ⟨Fr, M, G, ρ, μ, fl, ρ', μ', a, e, q⟩ := q
  simp only [evS] at e
  obtain ⟨⟨w, μ1⟩, e1, e⟩ := bnd e
  obtain ⟨x0, e0, e⟩ := bnd e
  obtain ⟨⟨y, μ2⟩, e2, e⟩ := bnd e
  obtain ⟨μ3, e4, e⟩ := Option.map_eq_some_iff.mp e
  cases e
  obtain ⟨⟨u, μ4⟩, e3, e5⟩ := bnd e2
  refine tv_go a.ss a.rr e1 fun z H1 G1 l1 s1 n1 r1 => ?_
  cases r1 with
  | d _ => cases e4
  | c _ => cases e4
  | o _ _ _ => cases e4
  | p i =>
    refine ⟨?_, tv_go s1 (a.rr.mono l1) e3 fun z2 H2 G2 l2 s2 n2 r2 => ?_⟩
    · have p0 := s1.rd (O := O) (.p i) e0
      cases x0 with
      | list ds =>
        cases p0 with
        | lst p0 _ _ => exact .inl ⟨rfl, _, p0.sql⟩
      | _ => unfold deref at e0; simp only at e0; split at e0 <;> cases e0
    · obtain ⟨G3, l3, s3, r3, n3⟩ := s2.frzV r2 e5
      obtain ⟨_, _, ⟨vs, h1, hz, s5⟩, n4⟩ := s3.app r3 e4
      refine ⟨M i, vs, z2, rfl, rfl, h1, hz, ?_⟩
      exact q σ _ G3 M (l1.trans (l2.trans l3)) ⟨s5, a.rr.mono (l1.trans (l2.trans l3)), by rw [n4, n3, n2, n1]; exact a.bd⟩ (.eq M (by rw [n4, n3, n2, n1]))
theorem SS.ext {K : PySem.W.Frag} {Fr : Hp} {M : Nat → Addr} {G H : Hp} {μ μ3 : Store} {i : Nat} {ys : List D} {us : List V} (s : SS K S Fr M G H μ) (r : RpA K G us ys) (e : extV μ (.p i) ys = some μ3) :
    (∃ vs, H (M i) = some (.lst vs) ∧ vs.length + us.length ≤ sizeLine ∧ SS K S Fr M G (upd H (M i) (.lst (vs ++ us))) μ3) ∧ μ3.length = μ.length := by
  simp only [extV] at e
  split at e
  · rename_i xs hx
    split at e
    · rename_i hz
      cases e
      obtain ⟨vs, h1, h2, z3⟩ := s.cell i xs hx
      exact ⟨⟨vs, h1, by rw [h2.length, r.length]; exact hz, s.put hx (h2.append r) (by simp; omega)⟩, by rw [List.length_set]⟩
    · cases e
  · cases e
theorem s_ext {x : Str} {ma m : E} {v : Expr} {xp ap pos p : Pos} (hl : (ap.endLine == pos.line) = true) (ha : PE X (.Name x xp) (tv X.K S O (evE C F ma))) (h : PE X v (tvN X.K S O (evE C F m))) (pv : plainX v = true) :
    PS X (.Expr (.Call (.Attribute (.Name x xp) "extend" ap) [v] [] pos) p) (tvS X.K S O W (evS C F (.ext ma m))) := by
  have hs : starEach [v] X.env = (false, eval v X.env) :: starEach [] X.env := star_of pv
  have p1 := pe_bm (apos := ap) (cpos := pos) PySem.F.plainAttrs_list PySem.F.slot_list_extend PySem.F.type_list_extend mt_extend ha (pa_cons h pa_nil hs) rfl (by rw [hs]; rfl) hl hs rfl
  refine (ps_expr (pos := p) p1 rfl).wk fun Dn σ H q => ?_
  obtain ⟨Fr, M, G, ρ, μ, fl, ρ', μ', a, e, q⟩ := q
  simp only [evS] at e
  obtain ⟨⟨w, μ1⟩, e1, e⟩ := bnd e
  obtain ⟨x0, e0, e⟩ := bnd e
  obtain ⟨⟨y, μ2⟩, e2, e⟩ := bnd e
  obtain ⟨ys, e3, e⟩ := bnd e
  obtain ⟨μ3, e4, e⟩ := Option.map_eq_some_iff.mp e
  cases e
  dsimp only at e2 e3 e4
  have e3' : y = .d (.list ys) := by
    unfold lstV at e3
    split at e3
    · cases e3; rfl
    · cases e3
  subst e3'
  refine tv_go a.ss a.rr e1 fun z H1 G1 l1 s1 n1 r1 => ?_
  cases r1 with
  | d _ => cases e4
  | c _ => cases e4
  | o _ _ _ => cases e4
  | p i =>
    refine ⟨?_, Fr, M, G1, _, μ1, ys, μ2, s1, a.rr.mono l1, e2, fun p vs H2 G2 l2 s2 n2 hp gp fp mp r2 z2 => ?_⟩
    · have p0 := s1.rd (O := O) (.p i) e0
      cases x0 with
      | list ds =>
        cases p0 with
        | lst p0 _ _ => exact .inl ⟨rfl, _, p0.sql⟩
      | _ => unfold deref at e0; simp only at e0; split at e0 <;> cases e0
    · obtain ⟨⟨us, h1, hz, s5⟩, n4⟩ := s2.ext r2 e4
      refine ⟨M i, p, us, vs, rfl, rfl, h1, hp, hz, ?_⟩
      exact q σ _ G2 M (l1.trans l2) ⟨s5, a.rr.mono (l1.trans l2), by rw [n4, n2, n1]; exact a.bd⟩ (.eq M (by rw [n4, n2, n1]))
theorem s_ndef (b : Body X S O c C k F W) (t : TopOk X c S O) {i j : Nat} {js : List Nat} {name : Str} {params : Arguments} {body : List Stmt} {scope : Scope} {pos : Pos} (hN : c.N[i]? = some name) (hl : locB X.env.scope name = true) (hk : c.m.chk j ⟨params, .stmts body, scope⟩ = true)
    (hc : ckCap c X.env.scope scope js (c.m.fr j) = true) (hq : c.m.nm pos.line pos.col = c.m.q ++ name) (hp : plainPs params = true) : PS X (.FunctionDef name params body [] none [] scope none name pos) (tvS X.K S O W (evS C F (.ndef i j js))) := by
  obtain ⟨cc, P, hcode, TB, hm, hu⟩ := t.code
  obtain ⟨h1, h2, h3, h4⟩ := ckCap_of hc
  obtain ⟨_, p2, p3, p4⟩ := plainPs_of hp X.env
  refine (ps_ndef (T := S.tabs) TB hcode hm (by rw [hq, t.q]) hu (fun y hy e => .inl (h2 _ (h3 y hy e)).1) p2 p3 p4 b.nd (by rw [b.N]; exact hN) (loc_of hl) (b.fnl hl)).wk fun Dn σ H q => ?_
  obtain ⟨Fr, M, G, ρ, μ, fl, ρ', μ', a, e, q⟩ := q
  simp only [evS] at e
  cases e
  refine ⟨a.ss.tab.tab, fun f c' H1 eN T1 f0 f1 c1 => ?_⟩
  obtain ⟨G1, l1, s1, gf, gc⟩ := a.ss.made eN T1 f0 f1 c1 ⟨_, rfl⟩ ⟨_, rfl⟩
  exact q (σ.set i (some (.ref f))) H1 G1 M l1 ⟨s1, (a.rr.mono l1).set (.o (F := ⟨name, X.env.qual ++ name, ⟨params, .stmts body, scope⟩, cloFrom X.env.cells scope.names [], c'⟩) gf gc (own_of b.toGood t hk hc)), a.bd.setO⟩ (.rf _ _)
end Mu

namespace Mu
open PySem PySem.Spec PyProof.Rows L2 LamX NdefX
variable {S : ST} {O : OF} {c : Sc} {C : Cons} {k : Nat} {F : Calls} {X : Cx} {W : WJ}

theorem put_go {K : PySem.W.Frag} {Fr : Hp} {M : Nat → Addr} {G H : Hp} {μ μ3 : Store} {w : Val} {x : V} {y : D} {u : V} {k : Int} {Q : Hp → Prop} (s : SS K S Fr M G H μ) (rw' : RV K S O M G x w) (r : Rp K G u y) (e : Mu.putV μ w k y = some μ3)
    (q : ∀ H', SS K S Fr M G H' μ3 → μ3.length = μ.length → Q H') : rSetL x (.int k) u H Q := by
  cases rw' with
  | d _ => cases e
  | p i =>
    obtain ⟨⟨vs, j, h1, h2, s1⟩, n⟩ := s.putV r e
    exact ⟨M i, vs, k, j, rfl, rfl, h1, h2, q _ s1 n⟩
  | c _ => cases e
  | o _ _ _ => cases e
theorem s_put {ma mi m : E} {a i v : Expr} {p pos : Pos} (ha : PE X a (tv X.K S O (evE C F ma))) (hi : PE X i (tv X.K S O (evE C F mi))) (h : PE X v (tv X.K S O (evE C F m))) (hc : isComp v = false) (hp : plainX i = true) : PS X (.Assign [.Subscript a i p] v pos) (tvS X.K S O W (evS C F (.put ma mi m))) := by
  have pg : PG X (.Subscript a i p) (gSub (tv X.K S O (evE C F ma)) (tv X.K S O (evE C F mi)) rSetL) := pg_sub ha hi set_list (by intro v; cases i <;> first | rfl | cases hp)
  refine (ps_asg h pg (by cases v <;> first | rfl | cases hc) (by cases v <;> rfl) rfl).wk fun Dn σ H q => ?_
  obtain ⟨Fr, M, G, ρ, μ, fl, ρ', μ', at_, e, q⟩ := q
  simp only [evS] at e
  obtain ⟨⟨y, μ1⟩, e1, e⟩ := bnd e
  obtain ⟨⟨w, μ0⟩, e0, e1'⟩ := bnd e1
  obtain ⟨⟨wa, μ2⟩, e2, e⟩ := bnd e
  obtain ⟨⟨kk, μ3⟩, e3, e⟩ := bnd e
  obtain ⟨μ4, e4, e⟩ := Option.map_eq_some_iff.mp e
  cases e
  refine tv_go at_.ss at_.rr e0 fun x H1 G1 l1 s1 n1 r1 => ?_
  obtain ⟨G2, l2, s2, r2, n2⟩ := s1.frzV r1 e1'
  refine tv_go s2 (at_.rr.mono (l1.trans l2)) e2 fun z H3 G3 l3 s3 n3 r3 => tv_go s3 (at_.rr.mono (l1.trans (l2.trans l3))) (toI_some e3) fun z2 H4 G4 l4 s4 n4 r4 => ?_
  cases r4 with
  | d r4 =>
    cases r4
    refine put_go s4 (r3.mono l4) (r2.mono (l3.trans l4)) e4 fun H5 s5 n5 => ?_
    have n6 : μ'.length = μ.length := by omega
    exact q σ H5 G4 M (l1.trans (l2.trans (l3.trans l4))) ⟨s5, at_.rr.mono (l1.trans (l2.trans (l3.trans l4))), by rw [n6]; exact at_.bd⟩ (.eq M n6)
theorem swapped_sub {a i b j e d : Expr} {p1 p2 p3 p4 : Pos} {k1 k2 : Nat} {env : Env} : swappedStores [.Tuple [.Subscript a i p1, .Subscript b j p2] k1 p3] (.Tuple [e, d] k2 p4) env = pure none := by
  unfold swappedStores
  simp
theorem s_put2 (b : Body X S O c C k F W) {ma mi mb mj me md : E} {a i b' j e d : Expr} {p1 p2 p3 p4 pos : Pos} {k1 k2 : Nat} (ha : PE X a (tv X.K S O (evE C F ma))) (hi : PE X i (tv X.K S O (evE C F mi))) (hb : PE X b' (tv X.K S O (evE C F mb))) (hj : PE X j (tv X.K S O (evE C F mj)))
    (he : PE X e (tv X.K S O (evE C F me))) (hd : PE X d (tv X.K S O (evE C F md))) (hpi : plainX i = true) (hpj : plainX j = true) (hpe : plainX e = true) (hpd : plainX d = true) :
    PS X (.Assign [.Tuple [.Subscript a i p1, .Subscript b' j p2] k1 p3] (.Tuple [e, d] k2 p4) pos) (tvS X.K S O W (evS C F (.put2 ma mi mb mj me md))) := by
  have pg1 : PG X (.Subscript a i p1) (gSub (tv X.K S O (evE C F ma)) (tv X.K S O (evE C F mi)) rSetL) := pg_sub ha hi set_list (by intro v; cases i <;> first | rfl | cases hpi)
  have pg2 : PG X (.Subscript b' j p2) (gSub (tv X.K S O (evE C F mb)) (tv X.K S O (evE C F mj)) rSetL) := pg_sub hb hj set_list (by intro v; cases j <;> first | rfl | cases hpj)
  have hsd : starEach [d] X.env = (false, eval d X.env) :: starEach [] X.env := star_of hpd
  have hse : starEach [e, d] X.env = (false, eval e X.env) :: starEach [d] X.env := star_of hpe
  refine (ps_asg (pe_tup (pa_cons he (pa_cons hd pa_nil hsd) hse)) (pg_tup (n := 2) b.calm (pgs_cons pg1 (pgs_cons pg2 pgs_nil rfl) rfl) rfl rfl) rfl swapped_sub rfl).wk fun Dn σ H q => ?_
  obtain ⟨Fr, M, G, ρ, μ, fl, ρ', μ', at_, e, q⟩ := q
  simp only [evS] at e
  obtain ⟨⟨y, μ1⟩, e1, e⟩ := bnd e
  obtain ⟨⟨w, μ0⟩, e0, e1'⟩ := bnd e1
  obtain ⟨⟨y2, μ2⟩, e2, e⟩ := bnd e
  obtain ⟨⟨w2, μ20⟩, e20, e2'⟩ := bnd e2
  obtain ⟨⟨wa, μ3⟩, e3, e⟩ := bnd e
  obtain ⟨⟨ki, μ4⟩, e4, e⟩ := bnd e
  obtain ⟨μ5, e5, e⟩ := bnd e
  obtain ⟨⟨wb, μ6⟩, e6, e⟩ := bnd e
  obtain ⟨⟨kj, μ7⟩, e7, e⟩ := bnd e
  obtain ⟨μ8, e8, e⟩ := Option.map_eq_some_iff.mp e
  cases e
  refine tv_go at_.ss at_.rr e0 fun x H1 G1 l1 s1 n1 r1 => ?_
  obtain ⟨G2, l2, s2, r2, n2⟩ := s1.frzV r1 e1'
  refine tv_go s2 (at_.rr.mono (l1.trans l2)) e20 fun x2 H3 G3 l3 s3 n3 r3 => ?_
  obtain ⟨G4, l4, s4, r4, n4⟩ := s3.frzV r3 e2'
  refine ⟨by show 2 ≤ sizeLine; decide, fun p hp => ?_⟩
  have l14 := l1.trans (l2.trans (l3.trans l4))
  have ra : RpA X.K G4 [x, x2] [y, y2] := .cons (r2.mono (l3.trans l4)) (.cons r4 .nil)
  obtain ⟨s5, l5⟩ := s4.new (o := .tup [x, x2]) hp
  have l15 := l14.trans l5
  have ra5 := ra.mono l5
  refine ⟨p, [x, x2], rfl, .inl (.inl upd_same), rfl, x, [x2], rfl, ?_⟩
  refine tv_go s5 (at_.rr.mono l15) e3 fun z H6 G6 l6 s6 n6 r6 => tv_go s6 (at_.rr.mono (l15.trans l6)) (toI_some e4) fun z2 H7 G7 l7 s7 n7 r7 => ?_
  cases r7 with
  | d r7 =>
    cases r7
    have ra7 := ra5.mono (l6.trans l7)
    cases ra7 with
    | cons q1 q2 =>
      refine put_go s7 (r6.mono l7) q1 e5 fun H8 s8 n8 => ⟨x2, [], rfl, ?_⟩
      refine tv_go s8 (at_.rr.mono (l15.trans (l6.trans l7))) e6 fun z3 H9 G9 l9 s9 n9 r9 => tv_go s9 (at_.rr.mono (l15.trans (l6.trans (l7.trans l9)))) (toI_some e7) fun z4 H10 G10 l10 s10 n10 r10 => ?_
      cases r10 with
      | d r10 =>
        cases r10
        cases q2 with
        | cons q2 _ =>
          refine put_go s10 (r9.mono l10) (q2.mono (l9.trans l10)) e8 fun H11 s11 n11 => ⟨rfl, ?_⟩
          have n12 : μ'.length = μ.length := by omega
          have l20 := l15.trans (l6.trans (l7.trans (l9.trans l10)))
          exact q σ H11 G10 M l20 ⟨s11, at_.rr.mono l20, by rw [n12]; exact at_.bd⟩ (.eq M n12)

/-! ### blocks, if, loops -/
theorem s_nil : PSs X [] (tvS X.K S O W (evSs C F [])) := by
  refine PSs.wk pss_nil fun Dn σ H q => ?_
  obtain ⟨Fr, M, G, ρ, μ, fl, ρ', μ', a, e, q⟩ := q
  simp only [evSs] at e
  cases e
  exact q σ H G M (Le.rfl' _) a (.rf _ _)
theorem EndsOk.mk {K : PySem.W.Frag} {W : WJ} {M : Nat → Addr} {G : Hp} {Dn Dn' : Ends} {fl : Flow} {σ : L2.St} {H : Hp} (h : EndsOk K S O W M G Dn fl σ H) (h1 : fl ≠ .nx) (e2 : Dn'.bk = Dn.bk) (e3 : Dn'.ct = Dn.ct) (e4 : Dn'.rt = Dn.rt) : EndsOk K S O W M G Dn' fl σ H := by
  cases fl with
  | nx => exact absurd rfl h1
  | bk => show Dn'.bk σ H; rw [e2]; exact h
  | ct => show Dn'.ct σ H; rw [e3]; exact h
  | ret w => intro v r; rw [e4]; exact h v r
  | xc j => exact h
theorem s_cons {s : Mu.S} {ss : List Mu.S} {st : Stmt} {sts : List Stmt} (h : PS X st (tvS X.K S O W (evS C F s))) (t : PSs X sts (tvS X.K S O W (evSs C F ss))) : PSs X (st :: sts) (tvS X.K S O W (evSs C F (s :: ss))) := by
  refine (pss_cons h t).wk fun Dn σ H q => ?_
  obtain ⟨Fr, M, G, ρ, μ, fl, ρ', μ', a, e, q⟩ := q
  simp only [evSs] at e
  obtain ⟨⟨f, ρ1, μ1⟩, e1, e⟩ := bnd e
  refine ⟨Fr, M, G, ρ, μ, f, ρ1, μ1, a, e1, fun σ1 H1 G1 M1 l1 a1 x1 => ?_⟩
  cases f with
  | nx => exact ⟨Fr, M1, G1, ρ1, μ1, fl, ρ', μ', a1, e, fun σ2 H2 G2 M2 l2 a2 x2 => q σ2 H2 G2 M2 (l1.trans l2) a2 (x1.tr x2)⟩
  | bk => cases e; exact q σ1 H1 G1 M1 l1 a1 x1
  | ct => cases e; exact q σ1 H1 G1 M1 l1 a1 x1
  | ret w => cases e; exact q σ1 H1 G1 M1 l1 a1 x1
  | xc j => cases e; exact q σ1 H1 G1 M1 l1 a1 x1
theorem s_if {d : Expr} {md : E} {a b : List Mu.S} {as bs : List Stmt} {pos : Pos} (hd : PT X d (tvT X.K S O fun ρ μ => toT (evE C F md ρ μ))) (ha : PSs X as (tvS X.K S O W (evSs C F a))) (hb : PSs X bs (tvS X.K S O W (evSs C F b))) : PS X (.If d as bs pos) (tvS X.K S O W (evS C F (.ife md a b))) := by
  refine (ps_if hd ha hb).wk fun Dn σ H q => ?_
  obtain ⟨Fr, M, G, ρ, μ, fl, ρ', μ', a0, e, q⟩ := q
  simp only [evS] at e
  obtain ⟨⟨k1, μ1⟩, e1, e⟩ := bnd e
  refine ⟨Fr, M, G, ρ, μ, k1, μ1, a0.ss, a0.rr, e1, fun H1 G1 l1 s1 n1 => ?_⟩
  have a1 : At X.K S O Fr M G1 H1 μ1 ρ σ := ⟨s1, a0.rr.mono l1, by rw [n1]; exact a0.bd⟩
  dsimp only at e ⊢
  cases k1 with
  | true =>
    rw [if_pos rfl] at e ⊢
    exact ⟨Fr, M, G1, ρ, μ1, fl, ρ', μ', a1, e, fun σ2 H2 G2 M2 l2 a2 x2 => q σ2 H2 G2 M2 (l1.trans l2) a2 ((Xt.eq M n1).tr x2)⟩
  | false =>
    rw [if_neg Bool.false_ne_true] at e ⊢
    exact ⟨Fr, M, G1, ρ, μ1, fl, ρ', μ', a1, e, fun σ2 H2 G2 M2 l2 a2 x2 => q σ2 H2 G2 M2 (l1.trans l2) a2 ((Xt.eq M n1).tr x2)⟩
theorem whileO_iter {α β : Type} {f : α → Option (α ⊕ β)} {a : α} {b : β} (h : whileO f a = some b) : ∃ n, iterO f n a = some b := by
  unfold whileO at h
  split at h
  · exact ⟨_, h⟩
  · cases h
theorem s_whl (bd : Body X S O c C k F W) {d : Expr} {md : E} {b : List Mu.S} {bs : List Stmt} {pos : Pos} (hd : PT X d (tvT X.K S O fun ρ μ => toT (evE C F md ρ μ))) (hb : PSs X bs (tvS X.K S O W (evSs C F b))) : PS X (.While d bs [] pos) (tvS X.K S O W (evS C F (.whl md b))) := by
  refine (ps_while bd.pown hd hb).wk fun Dn σ H q => ?_
  obtain ⟨Fr, M, G, ρ, μ, fl, ρ', μ', a0, e, q⟩ := q
  simp only [evS] at e
  obtain ⟨n, e⟩ := whileO_iter e
  refine ⟨fun m σ1 H1 => ∃ (M1 : Nat → Addr) (G1 : Hp) (ρ1 : Rho) (μ1 : Store), Le G G1 ∧ At X.K S O Fr M1 G1 H1 μ1 ρ1 σ1 ∧ Xt M μ.length M1 μ1.length ∧ iterO (fun (x : RS) => (toT (evE C F md x.1 x.2)).bind fun (k, μ1) =>
      if k = true then (evSs C F b x.1 μ1).bind fun (f, y) => match f with
        | .nx => some (.inl y)
        | .ct => some (.inl y)
        | .bk => some (.inr (.nx, y))
        | .xc j => some (.inr (.xc j, y))
        | .ret v => some (.inr (.ret v, y))
      else some (.inr (.nx, x.1, μ1))) m (ρ1, μ1) = some (fl, ρ', μ'), ⟨n, M, G, ρ, μ, Le.rfl' _, a0, .rf _ _, e⟩, ?_⟩
  rintro m σ1 H1 ⟨M1, G1, ρ1, μ1, l1, a1, x1, e⟩
  cases m with
  | zero => cases e
  | succ m =>
    simp only [iterO] at e
    split at e
    · cases e
    · rename_i y e2
      obtain ⟨⟨k1, μ2⟩, e1, e2⟩ := bnd e2
      dsimp only at e1 e2
      refine ⟨Fr, M1, G1, ρ1, μ1, k1, μ2, a1.ss, a1.rr, e1, fun H2 G2 l2 s2 n2 => ?_⟩
      have a2 : At X.K S O Fr M1 G2 H2 μ2 ρ1 σ1 := ⟨s2, a1.rr.mono l2, by rw [n2]; exact a1.bd⟩
      have x2 : Xt M μ.length M1 μ2.length := x1.tr (.eq M1 n2)
      cases k1 with
      | false => rw [if_neg Bool.false_ne_true] at e2; cases e2
      | true =>
        dsimp only
        rw [if_pos rfl] at e2 ⊢
        obtain ⟨⟨f, ρ3, μ3⟩, e3, e2⟩ := bnd e2
        refine ⟨fun σ3 H3 => ∃ (M3 : Nat → Addr) (G3 : Hp), Le G G3 ∧ At X.K S O Fr M3 G3 H3 μ3 ρ3 σ3 ∧ Xt M μ.length M3 μ3.length, fun σ3 H3 ⟨M3, G3, l3, a3, x3⟩ => ⟨m, Nat.lt_succ_self m, M3, G3, ρ3, μ3, l3, a3, x3, ?_⟩, Fr, M1, G2, ρ1, μ2, f, ρ3, μ3, a2, e3, fun σ3 H3 G3 M3 l3 a3 x3 => ?_⟩
        · cases f with
          | nx => cases e2; exact e
          | ct => cases e2; exact e
          | bk => cases e2
          | ret v => cases e2
          | xc j => cases e2
        · cases f with
          | nx => exact ⟨M3, G3, l1.trans (l2.trans l3), a3, x2.tr x3⟩
          | ct => exact ⟨M3, G3, l1.trans (l2.trans l3), a3, x2.tr x3⟩
          | bk => cases e2
          | ret v => cases e2
          | xc j => cases e2
    · rename_i y e2
      cases e
      obtain ⟨⟨k1, μ2⟩, e1, e2⟩ := bnd e2
      dsimp only at e1 e2
      refine ⟨Fr, M1, G1, ρ1, μ1, k1, μ2, a1.ss, a1.rr, e1, fun H2 G2 l2 s2 n2 => ?_⟩
      have a2 : At X.K S O Fr M1 G2 H2 μ2 ρ1 σ1 := ⟨s2, a1.rr.mono l2, by rw [n2]; exact a1.bd⟩
      have x2 : Xt M μ.length M1 μ2.length := x1.tr (.eq M1 n2)
      cases k1 with
      | false =>
        dsimp only
        rw [if_neg Bool.false_ne_true] at e2 ⊢
        cases e2
        exact q σ1 H2 G2 M1 (l1.trans l2) a2 x2
      | true =>
        dsimp only
        rw [if_pos rfl] at e2 ⊢
        obtain ⟨⟨f, ρ3, μ3⟩, e3, e2⟩ := bnd e2
        refine ⟨fun _ _ => False, fun _ _ z => z.elim, Fr, M1, G2, ρ1, μ2, f, ρ3, μ3, a2, e3, fun σ3 H3 G3 M3 l3 a3 x3 => ?_⟩
        cases f with
        | nx => cases e2
        | ct => cases e2
        | bk => cases e2; exact q σ3 H3 G3 M3 (l1.trans (l2.trans l3)) a3 (x2.tr x3)
        | ret v => cases e2; exact q σ3 H3 G3 M3 (l1.trans (l2.trans l3)) a3 (x2.tr x3)
        | xc j => cases e2; exact q σ3 H3 G3 M3 (l1.trans (l2.trans l3)) a3 (x2.tr x3)
theorem forO_nil {α : Type} {ok : α → Prop} {f : D → α → Option (α ⊕ (Flow × α))} {a : α} {r : Flow × α} (h : forO ok f [] a = some r) : ok a ∧ r = (.nx, a) := by
  simp only [forO] at h
  split at h
  · rename_i q; cases h; exact ⟨q, rfl⟩
  · cases h
theorem forO_cons {α : Type} {ok : α → Prop} {f : D → α → Option (α ⊕ (Flow × α))} {x : D} {xs : List D} {a : α} {r : Flow × α} (h : forO ok f (x :: xs) a = some r) :
    ok a ∧ ((∃ a', f x a = some (.inl a') ∧ forO ok f xs a' = some r) ∨ f x a = some (.inr r)) := by
  simp only [forO] at h
  split at h
  · rename_i q
    refine ⟨q, ?_⟩
    split at h
    · cases h
    · rename_i a' e; exact .inl ⟨a', e, h⟩
    · rename_i r' e; cases h; exact .inr e
  · cases h
theorem s_for (bd : Body X S O c C k F W) {tg : Tg} {it : It} {b : List Mu.S} {tg' it' : Expr} {bs : List Stmt} {pos : Pos} (hi : PI X tg' it' (tvI X.K S O (evI C F it))) (pi : plainX it' = true) (hg : PG X tg' (gOf X.K tg)) (hb : PSs X bs (tvS X.K S O W (evSs C F b))) :
    PS X (.For tg' it' bs [] pos) (tvS X.K S O W (evS C F (.for_ tg it b))) := by
  refine (ps_for bd.pown bd.calm hi hg hb fun x => folded_of pi).wk fun Dn σ H q => ?_
  obtain ⟨Fr, M, G, ρ, μ, fl, ρ', μ', a0, e, q⟩ := q
  simp only [evS] at e
  obtain ⟨⟨⟨xs, v⟩, μ1⟩, e1, e⟩ := bnd e
  dsimp only at e
  refine ⟨Fr, M, G, ρ, μ, xs, v, μ1, a0.ss, a0.rr, e1, fun J H1 G1 l1 s1 n1 hz st0 wk => ?_⟩
  have a1 : At X.K S O Fr M G1 H1 μ1 ρ σ := ⟨s1, a0.rr.mono l1, by rw [n1]; exact a0.bd⟩
  refine ⟨fun i m σ2 H2 => m = xs.length - i ∧ i ≤ xs.length ∧ ∃ (M2 : Nat → Addr) (G2 : Hp) (ρ2 : Rho) (μ2 : Store), Le G1 G2 ∧ At X.K S O Fr M2 G2 H2 μ2 ρ2 σ2 ∧ Xt M μ.length M2 μ2.length ∧ forO (fun (x : RS) => Still v xs x.2) (fun x (a : RS) => (tgS a.1 tg x).bind fun ρ1 => (evSs C F b ρ1 a.2).bind fun (f, y) => match f with
      | .nx => some (.inl y)
      | .ct => some (.inl y)
      | .bk => some (.inr (.nx, y))
      | .xc j => some (.inr (.xc j, y))
      | .ret v => some (.inr (.ret v, y))) (xs.drop i) (ρ2, μ2) = some (fl, ρ', μ'),
    ⟨xs.length, by omega, Nat.zero_le _, M, G1, ρ, μ1, Le.rfl' _, a1, .eq M n1, e⟩, ?_⟩
  rintro i m σ2 H2 ⟨rfl, hi2, M2, G2, ρ2, μ2, l2, a2, x2, e2⟩
  have ag : AgV M M2 v := by
    cases v with
    | d x => trivial
    | p j =>
      have hj : j < μ1.length := (List.getElem?_eq_some_iff.mp (show μ1[j]? = some (some xs) from st0)).1
      exact x2.1 j (by omega)
    | c _ _ => trivial
    | o _ _ => trivial
  by_cases hlt : i < xs.length
  · have hx : xs[i]? = some xs[i] := List.getElem?_eq_getElem hlt
    rw [drop_cons hx] at e2
    obtain ⟨st, e3⟩ := forO_cons e2
    have yl := fun x H' y => wk.yld _ M2 i H2 G2 μ2 x H' a2.ss l2 ag st hlt y
    rcases e3 with ⟨⟨ρ3, μ3⟩, e4, e5⟩ | e4
    · obtain ⟨ρ1, e6, e4⟩ := bnd e4
      obtain ⟨⟨f, ρ4, μ4⟩, e7, e4⟩ := bnd e4
      refine .inr ⟨wk.go _ M2 i H2 G2 μ2 a2.ss l2 ag st hlt, fun σ3 H3 => ∃ (M3 : Nat → Addr) (G3 : Hp), Le G1 G3 ∧ At X.K S O Fr M3 G3 H3 μ3 ρ3 σ3 ∧ Xt M μ.length M3 μ3.length, fun σ3 H3 ⟨M3, G3, l3, a3, x3⟩ => ⟨xs.length - (i + 1), by omega, rfl, hlt, M3, G3, ρ3, μ3, l3, a3, x3, e5⟩, fun x H' y => ?_⟩
      obtain ⟨G2n, lG, sy, d, hd, rd⟩ := yl x H' y
      rw [hx] at hd
      cases hd
      have l2 := l2.trans lG
      refine tg_go sy (a2.rr.mono lG) rd e6 fun σ1 rr1 _ => ⟨Fr, M2, G2n, ρ1, μ2, f, ρ4, μ4, ⟨sy, rr1, a2.bd.tg e6⟩, e7, fun σ3 H3 G3 M3 l3 a3 x3 => ?_⟩
      cases f with
      | nx => cases e4; exact ⟨M3, G3, l2.trans l3, a3, x2.tr x3⟩
      | ct => cases e4; exact ⟨M3, G3, l2.trans l3, a3, x2.tr x3⟩
      | bk => cases e4
      | ret w => cases e4
      | xc j => cases e4
    · obtain ⟨ρ1, e6, e4⟩ := bnd e4
      obtain ⟨⟨f, ρ4, μ4⟩, e7, e4⟩ := bnd e4
      refine .inr ⟨wk.go _ M2 i H2 G2 μ2 a2.ss l2 ag st hlt, fun _ _ => False, fun _ _ z => z.elim, fun x H' y => ?_⟩
      obtain ⟨G2n, lG, sy, d, hd, rd⟩ := yl x H' y
      rw [hx] at hd
      cases hd
      have l2 := l2.trans lG
      refine tg_go sy (a2.rr.mono lG) rd e6 fun σ1 rr1 _ => ⟨Fr, M2, G2n, ρ1, μ2, f, ρ4, μ4, ⟨sy, rr1, a2.bd.tg e6⟩, e7, fun σ3 H3 G3 M3 l3 a3 x3 => ?_⟩
      cases f with
      | nx => cases e4
      | ct => cases e4
      | bk => cases e4; exact q σ3 H3 G3 M3 (l1.trans (l2.trans l3)) a3 (x2.tr x3)
      | ret w => cases e4; exact q σ3 H3 G3 M3 (l1.trans (l2.trans l3)) a3 (x2.tr x3)
      | xc j => cases e4; exact q σ3 H3 G3 M3 (l1.trans (l2.trans l3)) a3 (x2.tr x3)
  · have ei : i = xs.length := by omega
    subst ei
    rw [List.drop_length] at e2
    obtain ⟨st, e3⟩ := forO_nil e2
    cases e3
    exact .inl ⟨wk.stop _ M2 H2 G2 _ a2.ss l2 ag st, q σ2 H2 G2 M2 (l1.trans l2) a2 x2⟩
end Mu

/-! raise, and try: return f(..) / except C: return a constant -/
namespace Mu
open PySem PySem.Spec PyProof.Rows L2 LamX NdefX
variable {S : ST} {O : OF} {c : Sc} {C : Cons} {k : Nat} {F : Calls} {X : Cx} {W : WJ}
theorem Good.wish (g : Good X S O c C k F) (xe : Value → Shared → Prop) (pn : List (Addr × Obj)) : Good (X.tr pn xe) S O c C k F := ⟨g.chk, g.fr, (fun z => let t := g.top z; ⟨t.own, t.code, t.q, t.fn⟩), g.N, g.nd, g.calm, g.room, g.grd, g.blt, g.con, g.calls⟩
theorem Good.nox (g : Good X S O c C k F) : Good X.nox S O c C k F := ⟨g.chk, g.fr, (fun z => let t := g.top z; ⟨t.own, t.code, t.q, t.fn⟩), g.N, g.nd, g.calm, g.room, g.grd, g.blt, g.con, g.calls⟩
theorem s_rai (b : Body X S O c C k F W) {j : Nat} {x : Str} {m : E} {a : Expr} {p1 p2 p3 : Pos} (hg : glB X.env.scope x = true) (hx : c.exs[j]? = some x) (h : PE X a (tv X.K S O (evE C F m))) (pa : plainX a = true) :
    PS X (.Raise (some (.Call (.Name x p1) [a] [] p2)) none p3) (tvS X.K S O W (evS C F (.rai j m))) := by
  obtain ⟨h1, h2⟩ := b.gl hg
  obtain ⟨Cc, e1, e2, e3, e4, e5, e6, e7⟩ := (b.exo j x hx).ex
  refine (ps_raise (pos := p3) b.calm b.tk (SkE.pmk_own1 (p := p1) (pos := p2) PySem.F.excBase_ValueError e2 e1 e3 (raises_own e4 e5) h1 h (star_of pa) h2)).wk fun Dn σ H q => ?_
  obtain ⟨Fr, M, G, ρ, μ, fl, ρ', μ', at_, e, q⟩ := q
  simp only [evS] at e
  obtain ⟨⟨v, μ1⟩, ev, e⟩ := bnd e
  cases e
  exact tv_go at_.ss at_.rr ev fun y H1 G1 l1 s1 n1 r1 => ⟨rfl, j, x, Cc, hx, e1, rfl, q σ H1 G1 M l1 ⟨s1, at_.rr.mono l1, by rw [n1]; exact at_.bd⟩ (.eq M n1)⟩
/-- the call of a def that ends with an exception -/
theorem call_exc (g : Good X S O c C k F) {WX' : WX} {ls : List Expr} {es : Es} {f jj : Nat} {x : Str} {p pos : Pos} (tk : Takes X WX') (hg : glB X.env.scope x = true) (hf : c.fns[f]? = some x) (ha : PA X ls (tvV X.K S O (evVs C F es))) (pl : ∀ e ∈ ls, plainX e = true) (hne : ls.isEmpty = false) :
    PE X (.Call (.Name x p) ls [] pos) (fun σ H _ => ∃ (Fr : Hp) (M : Nat → Addr) (G : Hp) (ρ : Rho) (μ : Store) (ws : List Val) (μ1 μ2 : Store), SS X.K S Fr M G H μ ∧ RR X.K S O M G ρ σ ∧ evVs C F es ρ μ = some (ws, μ1) ∧ F (xB + f) ws μ1 = some (.d (.int (jj : Nat)), μ2) ∧
      ∀ (y : Str) (Cc : Addr) (H' G' : Hp), c.exs[jj]? = some y → X.mg y = some (.ref Cc) → Le G G' → SS X.K S Fr M G' H' μ2 → μ2.length = μ.length → WX' (.ref Cc) none σ H') := by
  obtain ⟨h1, h2⟩ := g.gl hg
  refine ⟨fun pins s σ H Q I h => ?_⟩
  obtain ⟨Fr, M, G, ρ, μ, ws, μ1, μ2, ss, rr, e1, e2, q⟩ := h
  obtain ⟨fa, hm, hk, j2, ej, run⟩ := g.calls.2.2.1 f x ws μ1 jj μ2 hf e2
  have ej : jj = j2 := by omega
  subst ej
  have fin : ∀ (us : List Value) (vs : List V) (s1 : Shared) (H1 G1 : Hp), Inv X pins σ H1 s1 → Vals vs us → Le G G1 → SS X.K S Fr M G1 H1 μ1 → μ1.length = μ.length → RVs X.K S O M G1 vs ws →
      wpAny (model X.prog X.w) X.A (call (.ref fa) us) (EP X pins σ Q) X.xe s1 := fun us vs s1 H1 G1 I1 rv l1 s1' n1 r1 => by
    have rn := run X.A X.stack s1 H1 us vs (WE WX' σ) Fr M G1 g.room g.grd I1.env0 rv s1' (r1.out (g.calls.args e2)) fun y Cc H2 G2 hy hmg l2 s2 n2 => q y Cc H2 G2 hy hmg (l1.trans l2) s2 (n2.trans n1)
    refine wpAny_call (codeAny_mono rn fun res s' hq => ?_)
    cases res with
    | error er => exact passAt tk σ pins H1 s1 er s' I1 hq
    | ok fl =>
      cases fl with
      | ret u =>
        obtain ⟨_, _, _, _, _, _, _, z⟩ := hq
        exact z.elim
      | next => exact False.elim hq
      | brk => exact False.elim hq
      | cont => exact False.elim hq
  refine wpAny_Call_Name_kw (ld_glob I h1 hm ?_ h2)
  cases ls with
  | nil => cases hne
  | cons a ls =>
    have hs : starEach (a :: ls) X.env = (false, eval a X.env) :: starEach ls X.env := star_of (pl a List.mem_cons_self)
    refine PySem.W.callWith_K (h₀ := X.base) I.ok.mod.kin hk (thn (ha.run pos pins s σ H _ I ⟨Fr, M, G, ρ, μ, ws, μ1, ss, rr, e1, fun vs H' G' a b c d => (⟨G', a, b, c, d⟩ : ∃ G', Le G G' ∧ SS X.K S Fr M G' H' μ1 ∧ μ1.length = μ.length ∧ RVs X.K S O M G' vs ws)⟩) fun us s1 hq => ?_) hs (star_any fun e he => pl e (List.mem_cons_of_mem _ he))
    obtain ⟨vs, H1, I1, rv, G1, l1, s1', n1, r1⟩ := hq
    exact ⟨I1.kIn, fin us vs s1 H1 G1 I1 rv l1 s1' n1 r1⟩
def conV : D → V
  | .str x => .str x
  | _ => .non
theorem conK_pe {d : D} {kk : Const} (h : conK d kk = true) {X : Cx} {j : Nat} {p : Pos} : PE X (.Constant kk j p) (fun _ H Q => Q (conV d) H) := by
  unfold conK at h
  split at h
  · exact pe_non
  · simp only [decide_eq_true_eq] at h
    subst h
    exact pe_str
  · cases h
theorem conK_rp {d : D} {kk : Const} (h : conK d kk = true) {K : PySem.W.Frag} {G : Hp} : Rp K G (conV d) d := by
  unfold conK at h
  split at h
  · exact .non
  · exact .str _
  · cases h
theorem s_tryR (b : Body X S O c C k F W) {f j : Nat} {es : Es} {d : D} {x y : Str} {ls : List Expr} {kk : Const} {n : Nat} {p1 p2 p3 p4 p5 p6 p7 p8 : Pos} (hg : glB X.env.scope x = true) (hf : c.fns[f]? = some x) (hb : f < mB) (hl : ckEs c X.env.scope es ls = true)
    (hgy : glB X.env.scope y = true) (hy : c.exs[j]? = some y) (hk : conK d kk = true) (hne : ls.isEmpty = false)
    (snd : ∀ (X : Cx), Good X S O c C k F → ckEs c X.env.scope es ls = true → PA X ls (tvV X.K S O (evVs C F es)) ∧ (∀ e ∈ ls, plainX e = true) ∧ es.len = ls.length) :
    PS X (.Try [.Return (some (.Call (.Name x p1) ls [] p2)) p3] [.ExceptHandler (some (.Name y p4)) none [.Return (some (.Constant kk n p5)) p6] p7] [] [] p8) (tvS X.K S O W (evS C F (.tryR f es j d))) := by
  refine ⟨fun pins s σ H Dn I q => ?_⟩
  obtain ⟨Fr, M, G, ρ, μ, fl, ρ', μ', at_, e, q⟩ := q
  simp only [evS] at e
  obtain ⟨⟨ws, μ1⟩, e1, e⟩ := bnd e
  dsimp only at e
  split at e
  · rename_i v μ2 e2
    cases e
    have gx := b.toGood.nox
    obtain ⟨q1, q2, q3⟩ := snd X.nox gx hl
    have body : PSs X.nox [.Return (some (.Call (.Name x p1) ls [] p2)) p3] (tvS X.nox.K S O W (evSs C F [.ret (.call f es)])) := s_cons (s_ret (snd_call gx hg hf hb q1 q2 q3)) s_nil
    refine (ps_try_thru0 (X := X) (pos := p8) body).run pins s σ H Dn I ⟨Fr, M, G, ρ, μ, .ret v, ρ, μ', at_, ?_, q⟩
    simp only [evSs, evS, evE, e1, Option.bind_some, e2]
  · rename_i e2
    split at e
    · rename_i i μ2 e3
      split at e
      · rename_i hij
        cases e
        subst hij
        obtain ⟨h1, h2⟩ := b.gl hgy
        obtain ⟨Cc, c1, c2, c3, c4, c5, c6, c7⟩ := (b.exo _ y hy).ex
        let Wout : WX := fun _ _ _ _ => False
        have tk0 : Takes X Wout := fun u s' ⟨_, _, _, _, _, _, _, _, _, _, _, _, _, _, _, _, z⟩ => z.elim
        have main := ps_try_only (X := X) (x := y) (c := .ref Cc) (np := p4) (pos := p8) (pos' := p7) (body := [.Return (some (.Call (.Name x p1) ls [] p2)) p3]) (suite := []) (b₀ := .Return (some (.Constant kk n p5)) p6) (ts := fun _ _ _ D _ H => D.rt (conV d) H) (Wout := Wout) (tb := fun W _ σ H => ∃ (Fr : Hp) (M : Nat → Addr) (G : Hp) (ρ : Rho) (μ : Store) (ws : List Val) (μ1 μ2 : Store), SS X.K S Fr M G H μ ∧ RR X.K S O M G ρ σ ∧ evVs C F es ρ μ = some (ws, μ1) ∧ F (xB + f) ws μ1 = some (.d (.int (j : Nat)), μ2) ∧
            ∀ (y : Str) (Cc : Addr) (H' G' : Hp), c.exs[j]? = some y → X.mg y = some (.ref Cc) → Le G G' → SS X.K S Fr M G' H' μ2 → μ2.length = μ.length → W (.ref Cc) none σ H')
          b.stk b.frm ⟨h1, h2, .inl c1⟩ tk0 (fun W pn xe tk pw => by
            have gx := b.toGood.wish xe pn
            obtain ⟨q1, q2, q3⟩ := snd (X.tr pn xe) gx hl
            exact pss_one (ps_ret (pos := p3) (call_exc (X := X.tr pn xe) (p := p1) (pos := p2) gx (WX' := W) (jj := j) tk hg hf q1 q2 hne)))
          (fun a oe cls dd pn hz hv => pss_one (ps_ret (pos := p6) (conK_pe hk)))
        refine main.run pins s σ H Dn I ⟨Fr, M, G, ρ, μ, ws, μ1, μ', at_.ss, at_.rr, e1, e3, fun y' Cc' H' G' hy' hm' l s' n' => ?_⟩
        have ey : y' = y := Option.some.inj (hy'.symm.trans hy)
        subst ey
        have ec : Cc' = Cc := Value.ref.inj (Option.some.inj (hm'.symm.trans c1))
        subst ec
        exact ⟨true, PySem.W.exm_ref c4 c6 c5 c7, fun _ a na => q σ H' G' M l ⟨s', at_.rr.mono l, by rw [n']; exact at_.bd⟩ (.eq M n') (conV d) (.d (conK_rp hk)), fun z => nomatch z⟩
      · cases e
    · cases e
end Mu

namespace Mu
open PySem PySem.Spec PyProof.Rows L2 LamX NdefX
variable {S : ST} {O : OF} {c : Sc} {C : Cons} {k : Nat} {F : Calls} {X : Cx} {W : WJ}

theorem soundComp {own : List Nat} {tg : Tg} {it : It} {cs : Es} {elt : E} (g : Good X S O c C k F) {e : Expr} (h : ckE c X.env.scope (.comp own tg it cs elt) e = true) :
    PE X e (tvN X.K S O (evE C F (.comp own tg it cs elt))) ∧ (∀ {i : Nat} {y : Str} {py spos : Pos}, X.N[i]? = some y → X.env.scope.names.lookup y = some .local → swapsWith e (some (.Name y py)) spos.line X.env = pure true →
      PS X (.Assign [.Name y py] e spos) (tAsg (tvN X.K S O (evE C F (.comp own tg it cs elt))) (gName i))) := by
  cases e with
  | ListComp elt' gs scope pos =>
    cases gs with
    | nil => exact ff h
    | cons g1 gs =>
      obtain ⟨tg', it', ifs', as⟩ := g1
      cases gs with
      | cons _ _ => exact ff h
      | nil =>
        simp only [ckE, Bool.and_eq_true, List.all_eq_true, decide_eq_true_eq] at h
        obtain ⟨⟨⟨⟨⟨⟨⟨⟨rfl, h1⟩, h2⟩, h3⟩, h4⟩, h5⟩, h6⟩, h7⟩, h8⟩ := h
        obtain ⟨pi, pp⟩ := soundI it _ X g tg' it' h4
        exact snd_comp (pos := pos) g pi pp (by rw [g.N]; exact h1) h3
          (fun s H A cl fp => ckTg_pg (X := X.blk s H scope (compEnvC scope cl A X.env) fp) h5 g.N g.nd g.calm fun x _ hx => .inl hx)
          (fun s H A cl fp => (soundEs cs _ _ (g.blk s H scope (compEnvC scope cl A X.env) fp) ifs' h6).2.2.2.2.2.2 h7)
          (fun s H A cl fp => (soundE elt _ _ (g.blk s H scope (compEnvC scope cl A X.env) fp) elt' h8).1)
  | _ => exact ff h
theorem soundComp2 {own : List Nat} {tg tg1 : Tg} {it it1 : It} {cs : Es} {elt : E} (g : Good X S O c C k F) {e : Expr} (h : ckE c X.env.scope (.comp2 own tg it tg1 it1 cs elt) e = true) :
    PE X e (tvN X.K S O (evE C F (.comp2 own tg it tg1 it1 cs elt))) ∧ (∀ {i : Nat} {y : Str} {py spos : Pos}, X.N[i]? = some y → X.env.scope.names.lookup y = some .local → swapsWith e (some (.Name y py)) spos.line X.env = pure true →
      PS X (.Assign [.Name y py] e spos) (tAsg (tvN X.K S O (evE C F (.comp2 own tg it tg1 it1 cs elt))) (gName i))) := by
  cases e with
  | ListComp elt' gs scope pos =>
    cases gs with
    | nil => exact ff h
    | cons g1 gs =>
      obtain ⟨tg', it', ifs0, as⟩ := g1
      cases gs with
      | nil => cases ifs0 <;> exact ff h
      | cons g2 gs =>
        obtain ⟨tg1', it1', ifs', as1⟩ := g2
        cases ifs0 with
        | cons _ _ => exact ff h
        | nil =>
          cases gs with
          | cons _ _ => exact ff h
          | nil =>
            simp only [ckE, Bool.and_eq_true, List.all_eq_true, decide_eq_true_eq] at h
            obtain ⟨⟨⟨⟨⟨⟨⟨⟨⟨⟨⟨⟨rfl, rfl⟩, h1⟩, h2⟩, h3⟩, h3'⟩, h4⟩, h5⟩, h4'⟩, h5'⟩, h6⟩, h7⟩, h8⟩ := h
            obtain ⟨pi, pp⟩ := soundI it _ X g tg' it' h4
            have pp1 : plainX it1' = true := ckI_plain h4'
            exact snd_comp2 (pos := pos) g pi pp pp1 (by rw [g.N]; exact h1) h3 h3'
              (fun s H A cl fp => ckTg_pg (X := X.blk s H scope (compEnvC scope cl A X.env) fp) h5 g.N g.nd g.calm fun x _ hx => .inl hx)
              (fun s H A cl fp => (soundI it1 _ _ (g.blk s H scope (compEnvC scope cl A X.env) fp) tg1' it1' h4').1)
              (fun s H A cl fp => ckTg_pg (X := X.blk s H scope (compEnvC scope cl A X.env) fp) h5' g.N g.nd g.calm fun x _ hx => .inl hx)
              (fun s H A cl fp => (soundEs cs _ _ (g.blk s H scope (compEnvC scope cl A X.env) fp) ifs' h6).2.2.2.2.2.2 h7)
              (fun s H A cl fp => (soundE elt _ _ (g.blk s H scope (compEnvC scope cl A X.env) fp) elt' h8).1)
  | _ => exact ff h
/-- the meaning of a comprehension is a comprehension's -/
theorem comp_of {sc : Scope} {m : E} {e : Expr} (h : ckE c sc m e = true) (hc : isComp e = true) : (∃ own tg it cs elt, m = .comp own tg it cs elt) ∨ ∃ own tg it tg1 it1 cs elt, m = .comp2 own tg it tg1 it1 cs elt := by
  cases e with
  | ListComp a b d f =>
    cases m <;> first
      | exact .inl ⟨_, _, _, _, _, rfl⟩
      | exact .inr ⟨_, _, _, _, _, _, _, rfl⟩
      | exact ff h
  | SetComp a b d f => cases m <;> exact ff h
  | DictComp a b d f g => cases m <;> exact ff h
  | _ => cases hc
theorem sw_of {sc : Scope} {x : Str} {py : Pos} {e : Expr} {l : Nat} {env : Env} (hs : env.scope = sc) (hk : sc.kind = .function) (h : compB sc x py e = true) : swapsWith e (some (.Name x py)) l env = pure true ∧ sc.names.lookup x = some .local := by
  cases e with
  | ListComp a b d f =>
    simp only [compB, Bool.and_eq_true, decide_eq_true_eq, Bool.not_eq_true'] at h
    exact ⟨sw_true (by rw [hs]; exact hk) (by rw [hs]; exact h.1.1) h.1.2 h.2, h.1.1⟩
  | _ => exact ff h
theorem soundNew (g : Good X S O c C k F) {m : E} {e : Expr} (h : ckE c X.env.scope m e = true) (hm : isNew m = true) : PE X e (tvN X.K S O (evE C F m)) := by
  cases m with
  | lst es =>
    cases e with
    | List ls pos =>
      simp only [ckE, Bool.and_eq_true, decide_eq_true_eq] at h
      exact new_lst (soundEs es _ X g ls h.1).1 h.2
    | _ => exact ff h
  | rep es m =>
    cases e with
    | BinOp a o b pos =>
      cases a with
      | List ls p1 =>
        cases o with
        | Mult =>
          simp only [ckE, Bool.and_eq_true, decide_eq_true_eq] at h
          exact new_rep (soundEs es _ X g ls h.1.1).1 h.1.2 (soundE m _ X g b h.2).1
        | _ => exact ff h
      | _ => exact ff h
    | _ => exact ff h
  | comp own tg it cs elt => exact (soundComp g h).1
  | bop o a b =>
    cases o with
    | add =>
      cases e with
      | BinOp a' o' b' pos =>
        simp only [ckE, Bool.and_eq_true, decide_eq_true_eq] at h
        obtain ⟨⟨rfl, h2⟩, h3⟩ := h
        exact new_cat (soundE a _ X g a' h2).1 (soundE b _ X g b' h3).1
      | _ => exact ff h
    | _ => cases hm
  | sset m =>
    cases e with
    | Call x ls ks pos =>
      cases x with
      | Name x p =>
        cases ls with
        | nil => exact ff h
        | cons a as =>
          cases a with
          | Call f2 l2 k2 pos2 =>
            cases f2 with
            | Name y p2 =>
              cases l2 with
              | nil => exact ff h
              | cons l l3 =>
                cases l3 with
                | cons _ _ => exact ff h
                | nil =>
                  cases k2 with
                  | cons _ _ => exact ff h
                  | nil =>
                    cases as with
                    | cons _ _ => exact ff h
                    | nil =>
                      cases ks with
                      | cons _ _ => exact ff h
                      | nil =>
                        simp only [ckE, Bool.and_eq_true, decide_eq_true_eq] at h
                        obtain ⟨⟨⟨⟨h1, rfl⟩, h2⟩, rfl⟩, h3⟩ := h
                        exact new_sset g h1 h2 (soundE m _ X g l h3).1 (ck_plain h3)
            | _ => exact ff h
          | _ => exact ff h
      | _ => exact ff h
    | _ => exact ff h
  | srt m =>
    cases e with
    | Call x ls ks pos =>
      cases x with
      | Name x p =>
        match ls, h with
        | [l], h =>
          cases ks with
          | nil =>
            simp only [ckE, Bool.and_eq_true, decide_eq_true_eq] at h
            obtain ⟨⟨h1, rfl⟩, h3⟩ := h
            exact new_srt g h1 (soundE m _ X g l h3).1 (ck_plain h3)
          | cons _ _ => exact ff h
        | [], h => exact ff h
        | _ :: _ :: _, h => exact ff h
      | _ => exact ff h
    | _ => exact ff h
  | rgL m =>
    cases e with
    | Call x ls ks pos =>
      cases x with
      | Name x p =>
        cases ls with
        | nil => exact ff h
        | cons a as =>
          cases a with
          | Call f2 l2 k2 pos2 =>
            cases f2 with
            | Name y p2 =>
              cases l2 with
              | nil => exact ff h
              | cons l l3 =>
                cases l3 with
                | cons _ _ => exact ff h
                | nil =>
                  cases k2 with
                  | cons _ _ => exact ff h
                  | nil =>
                    cases as with
                    | cons _ _ => exact ff h
                    | nil =>
                      cases ks with
                      | cons _ _ => exact ff h
                      | nil =>
                        simp only [ckE, Bool.and_eq_true, decide_eq_true_eq] at h
                        obtain ⟨⟨⟨⟨h1, rfl⟩, h2⟩, rfl⟩, h3⟩ := h
                        exact new_rgL g h1 h2 (soundE m _ X g l h3).1 (ck_plain h3)
            | _ => exact ff h
          | _ => exact ff h
      | _ => exact ff h
    | _ => exact ff h
  | callM f es =>
    cases e with
    | Call x ls ks pos =>
      cases x with
      | Name x p =>
        cases ks with
        | nil =>
          simp only [ckE, Bool.and_eq_true, decide_eq_true_eq] at h
          obtain ⟨_, q1, q2, q3, _⟩ := soundEs es _ X g ls h.2
          exact snd_callM g h.1.1 h.1.2 q1 q2 q3
        | cons _ _ => exact ff h
      | _ => exact ff h
    | _ => exact ff h
  | comp2 own tg it tg1 it1 cs elt => exact (soundComp2 g h).1
  | bi b a =>
    cases b with
    | lst =>
      cases e with
      | Call x ls ks pos =>
        cases x with
        | Name x p =>
          match ls, h with
          | [a'], h =>
            cases ks with
            | nil =>
              simp only [ckE, Bool.and_eq_true, decide_eq_true_eq] at h
              obtain ⟨⟨h1, rfl⟩, h2⟩ := h
              exact new_list g h1 (soundE a _ X g a' h2).1 (ck_plain h2)
            | cons _ _ => exact ff h
          | [], h => exact ff h
          | _ :: _ :: _, h => exact ff h
        | _ => exact ff h
      | _ => exact ff h
    | _ => cases hm
  | _ => cases hm

theorem s_brk {pos : Pos} : PS X (.Break pos) (tvS X.K S O W (evS C F .brk)) := by
  refine PS.wk ps_break fun Dn σ H q => ?_
  obtain ⟨Fr, M, G, ρ, μ, fl, ρ', μ', a, e, q⟩ := q
  simp only [evS] at e
  cases e
  exact q σ H G M (Le.rfl' _) a (.rf _ _)
theorem s_cnt {pos : Pos} : PS X (.Continue pos) (tvS X.K S O W (evS C F .cnt)) := by
  refine PS.wk ps_continue fun Dn σ H q => ?_
  obtain ⟨Fr, M, G, ρ, μ, fl, ρ', μ', a, e, q⟩ := q
  simp only [evS] at e
  cases e
  exact q σ H G M (Le.rfl' _) a (.rf _ _)
theorem s_pass {pos : Pos} : PS X (.Pass pos) (tvS X.K S O W (evS C F .pass)) := by
  refine PS.wk ps_pass fun Dn σ H q => ?_
  obtain ⟨Fr, M, G, ρ, μ, fl, ρ', μ', a, e, q⟩ := q
  simp only [evS] at e
  cases e
  exact q σ H G M (Le.rfl' _) a (.rf _ _)
mutual
theorem soundS : ∀ (s : Mu.S) (X : Cx) (b : Body X S O c C k F W) (st : Stmt), ckS c X.env.scope s st = true → PS X st (tvS X.K S O W (evS C F s))
  | .set i m, X, b, st, h => by
    cases st with
    | Assign ts v pos =>
      obtain ⟨⟨x, py⟩, h0, hh⟩ := okO_of h
      obtain ⟨e, rfl, he⟩ := one_of h0
      have he := nmE_of he
      subst he
      simp only [Bool.and_eq_true, Bool.or_eq_true, decide_eq_true_eq, Bool.not_eq_true'] at hh
      obtain ⟨⟨⟨h1, h2⟩, h3⟩, h4⟩ := hh
      cases hc : isComp v with
      | false => exact s_set b h1 h2 (soundE m _ X b.toGood v h3).1 (.inl hc)
      | true =>
       cases hce : cellB X.env.scope x with
       | true => exact s_set b h1 h2 (soundE m _ X b.toGood v h3).1 (.inr hce)
       | false =>
        have h4 : compB X.env.scope x py v = true := by
          rcases h4 with h4 | h4
          · rw [hc] at h4; cases h4
          · unfold compB' at h4
            rw [hce, Bool.or_false] at h4
            exact h4
        obtain ⟨sw, hl⟩ := sw_of (l := pos.line) rfl b.knd h4
        rcases comp_of h3 hc with ⟨_, _, _, _, _, rfl⟩ | ⟨_, _, _, _, _, _, _, rfl⟩
        · exact ((soundComp b.toGood h3).2 (by rw [b.N]; exact h1) hl sw).wk fun _ _ _ q => tvN_tv comp_list (s_set_go q)
        · exact ((soundComp2 b.toGood h3).2 (by rw [b.N]; exact h1) hl sw).wk fun _ _ _ q => tvN_tv comp2_list (s_set_go q)
    | AugAssign t o' v pos =>
      cases m with
      | bop o m1 m2 =>
        cases o with
        | add =>
          cases m1 with
          | var j =>
            cases m2 with
            | tup es =>
              obtain ⟨⟨x, p⟩, h0, hh⟩ := okO_of h
              have he := nmE_of h0
              subst he
              simp only [Bool.and_eq_true, decide_eq_true_eq] at hh
              obtain ⟨⟨⟨⟨rfl, h1⟩, h2⟩, rfl⟩, h4⟩ := hh
              exact s_augT b h1 h2 (soundE (.tup es) _ X b.toGood v h4).1
            | _ => exact ff h
          | _ => exact ff h
        | _ => exact ff h
      | _ => exact ff h
    | _ => exact ff h
  | .setM i m, X, b, st, h => by
    cases st with
    | Assign ts v pos =>
      obtain ⟨⟨x, py⟩, h0, hh⟩ := okO_of h
      obtain ⟨e, rfl, he⟩ := one_of h0
      have he := nmE_of he
      subst he
      simp only [Bool.and_eq_true, Bool.or_eq_true, decide_eq_true_eq, Bool.not_eq_true'] at hh
      obtain ⟨⟨⟨⟨h1, h2⟩, h3⟩, h5⟩, h4⟩ := hh
      cases hc : isComp v with
      | false => exact s_setM b h1 h2 (soundNew b.toGood h3 h5) (.inl hc)
      | true =>
       cases hce : cellB X.env.scope x with
       | true => exact s_setM b h1 h2 (soundNew b.toGood h3 h5) (.inr hce)
       | false =>
        have h4 : compB X.env.scope x py v = true := by
          rcases h4 with h4 | h4
          · rw [hc] at h4; cases h4
          · unfold compB' at h4
            rw [hce, Bool.or_false] at h4
            exact h4
        obtain ⟨sw, hl⟩ := sw_of (l := pos.line) rfl b.knd h4
        rcases comp_of h3 hc with ⟨_, _, _, _, _, rfl⟩ | ⟨_, _, _, _, _, _, _, rfl⟩
        · exact ((soundComp b.toGood h3).2 (by rw [b.N]; exact h1) hl sw).wk fun _ _ _ q => s_setM_go q
        · exact ((soundComp2 b.toGood h3).2 (by rw [b.N]; exact h1) hl sw).wk fun _ _ _ q => s_setM_go q
    | _ => exact ff h
  | .unp is m, X, b, st, h => by
    cases st with
    | Assign ts v pos =>
      obtain ⟨⟨l, kk, p⟩, h0, hh⟩ := okO_of h
      obtain ⟨e, rfl, he⟩ := one_of h0
      have he := tpE_of he
      subst he
      simp only [Bool.and_eq_true, Bool.or_eq_true] at hh
      exact s_unp b hh.1.1 (soundE m _ X b.toGood v hh.1.2).1 hh.2
    | _ => exact ff h
  | .aug i o m, X, b, st, h => by
    cases st with
    | AugAssign t o' v pos =>
      obtain ⟨⟨x, p⟩, h0, hh⟩ := okO_of h
      have he := nmE_of h0
      subst he
      simp only [Bool.and_eq_true, decide_eq_true_eq] at hh
      obtain ⟨⟨⟨⟨h1, h2⟩, h3⟩, rfl⟩, h4⟩ := hh
      exact s_aug b h3 h1 h2 (soundE m _ X b.toGood v h4).1
    | _ => exact ff h
  | .ret m, X, b, st, h => by
    cases st with
    | Return v pos =>
      obtain ⟨v, rfl, h⟩ := okO_of h
      exact s_ret (soundE m _ X b.toGood v h).1
    | _ => exact ff h
  | .retN, X, b, st, h => by
    cases st with
    | Return v pos =>
      cases v with
      | none => exact s_retN
      | some _ => exact ff h
    | _ => exact ff h
  | .retM m, X, b, st, h => by
    cases st with
    | Return v pos =>
      obtain ⟨v, rfl, h⟩ := okO_of h
      have h := (Bool.and_eq_true _ _).mp h
      exact s_retM (soundNew b.toGood h.1 h.2)
    | _ => exact ff h
  | .drop m, X, b, st, h => by
    cases st with
    | Expr v pos =>
      simp only [ckS, Bool.and_eq_true, Bool.not_eq_true'] at h
      exact s_drop (soundE m _ X b.toGood v h.1).1 h.2
    | _ => exact ff h
  | .ext a m, X, b, st, h => by
    cases st with
    | Expr v pos =>
      obtain ⟨⟨⟨x, xp⟩, y, ap, w, p⟩, h0, hh⟩ := okO_of h
      have he := appE_of h0
      subst he
      simp only [Bool.and_eq_true, decide_eq_true_eq] at hh
      obtain ⟨⟨⟨⟨rfl, h1⟩, h2⟩, h3⟩, h4⟩ := hh
      exact s_ext h1 (soundE a _ X b.toGood _ h2).1 (soundNew b.toGood h3 h4) (ck_plain h3)
    | _ => exact ff h
  | .app a m, X, b, st, h => by
    cases st with
    | Expr v pos =>
      obtain ⟨⟨⟨x, xp⟩, y, ap, w, p⟩, h0, hh⟩ := okO_of h
      have he := appE_of h0
      subst he
      simp only [Bool.and_eq_true, decide_eq_true_eq] at hh
      obtain ⟨⟨⟨rfl, h1⟩, h2⟩, h3⟩ := hh
      exact s_app h1 (soundE a _ X b.toGood _ h2).1 (soundE m _ X b.toGood w h3).1 (ck_plain h3)
    | _ => exact ff h
  | .put a i m, X, b, st, h => by
    cases st with
    | Assign ts v pos =>
      obtain ⟨⟨a', i', p⟩, h0, hh⟩ := okO_of h
      obtain ⟨e, rfl, he⟩ := one_of h0
      have he := subE_of he
      subst he
      simp only [Bool.and_eq_true, Bool.not_eq_true'] at hh
      exact s_put (soundE a _ X b.toGood a' hh.1.1.1).1 (soundE i _ X b.toGood i' hh.1.1.2).1 (soundE m _ X b.toGood v hh.1.2).1 hh.2 (ck_plain hh.1.1.2)
    | _ => exact ff h
  | .put2 a i b2 j m m2, X, b, st, h => by
    cases st with
    | Assign ts v pos =>
      obtain ⟨⟨l, kk, p⟩, h0, g0⟩ := okO_of h
      obtain ⟨e, rfl, he⟩ := one_of h0
      have he' := tpE_of he
      subst he'
      obtain ⟨⟨⟨a', i', p1⟩, ⟨b', j', p2⟩⟩, h1, g1⟩ := okO_of g0
      obtain ⟨⟨l2, k2, p3⟩, h4, g2⟩ := okO_of g1
      obtain ⟨⟨e', d'⟩, h5, g3⟩ := okO_of g2
      obtain ⟨d1, d2, el, h2, h3⟩ := two_of h1
      have h2' := subE_of h2
      have h3' := subE_of h3
      have h4' := tpE_of h4
      obtain ⟨d3, d4, el2, h6, h7⟩ := two_of h5
      cases h6
      cases h7
      dsimp only at el el2 h2' h3' h4'
      subst h4'
      subst el
      subst el2
      subst h2'
      subst h3'
      simp only [Bool.and_eq_true] at g3
      obtain ⟨⟨⟨⟨⟨q1, q2⟩, q3⟩, q4⟩, q5⟩, q6⟩ := g3
      exact s_put2 b (soundE a _ X b.toGood a' q1).1 (soundE i _ X b.toGood i' q2).1 (soundE b2 _ X b.toGood b' q3).1 (soundE j _ X b.toGood j' q4).1 (soundE m _ X b.toGood _ q5).1 (soundE m2 _ X b.toGood _ q6).1 (ck_plain q2) (ck_plain q4) (ck_plain q5) (ck_plain q6)
    | _ => exact ff h
  | .par i j m n, X, b, st, h => by
    cases st with
    | Assign ts v pos =>
      obtain ⟨⟨l, kk, p⟩, h0, g0⟩ := okO_of h
      obtain ⟨e, rfl, he⟩ := one_of h0
      have he' := tpE_of he
      subst he'
      obtain ⟨⟨⟨x, px⟩, ⟨y, py⟩⟩, h1, g1⟩ := okO_of g0
      obtain ⟨⟨l2, k2, p3⟩, h4, g2⟩ := okO_of g1
      obtain ⟨⟨e', d'⟩, h5, g3⟩ := okO_of g2
      obtain ⟨d1, d2, el, h2, h3⟩ := two_of h1
      have h2' := nmE_of h2
      have h3' := nmE_of h3
      have h4' := tpE_of h4
      obtain ⟨d3, d4, el2, h6, h7⟩ := two_of h5
      cases h6
      cases h7
      dsimp only at el el2 h2' h3' h4'
      subst h4'
      subst el
      subst el2
      subst h2'
      subst h3'
      simp only [Bool.and_eq_true, decide_eq_true_eq, Bool.not_eq_true'] at g3
      obtain ⟨⟨⟨⟨⟨q1, q2⟩, q3⟩, q4⟩, q5⟩, q6⟩ := g3
      have es : ckEs c X.env.scope (.cons m (.cons n .nil)) [e', d'] = true := by
        simp only [ckEs, q5, q6, Bool.and_self]
      exact s_par b q1 q2 (by intro z; subst z; rw [beq_self_eq_true] at q3; cases q3) q4 (soundEs _ _ X b.toGood _ es).2.1
    | _ => exact ff h
  | .par3 i j l m n r, X, b, st, h => by
    cases st with
    | Assign ts v pos =>
      obtain ⟨⟨lt, kk, p⟩, h0, g0⟩ := okO_of h
      obtain ⟨e, rfl, he⟩ := one_of h0
      have he' := tpE_of he
      subst he'
      obtain ⟨⟨⟨x, px⟩, ⟨y, py⟩, ⟨z, pz⟩⟩, h1, g1⟩ := okO_of g0
      obtain ⟨⟨l2, k2, p3⟩, h4, g2⟩ := okO_of g1
      obtain ⟨⟨e', d', g'⟩, h5, g3⟩ := okO_of g2
      obtain ⟨d1, d2, d5, el, h2, h3, h8⟩ := three_of h1
      have h2' := nmE_of h2
      have h3' := nmE_of h3
      have h8' := nmE_of h8
      have h4' := tpE_of h4
      obtain ⟨d3, d4, d6, el2, h6, h7, h9⟩ := three_of h5
      cases h6
      cases h7
      cases h9
      dsimp only at el el2 h2' h3' h4' h8'
      subst h4'
      subst el
      subst el2
      subst h2'
      subst h3'
      subst h8'
      simp only [Bool.and_eq_true, decide_eq_true_eq, Bool.not_eq_true'] at g3
      obtain ⟨⟨⟨⟨⟨⟨⟨⟨⟨q1, q2⟩, q3⟩, q4⟩, q5⟩, q6⟩, q7⟩, q8⟩, q9⟩, q10⟩ := g3
      have es : ckEs c X.env.scope (.cons m (.cons n (.cons r .nil))) [e', d', g'] = true := by
        simp only [ckEs, q8, q9, q10, Bool.and_self]
      exact s_par3 b q1 q2 q3 (fun w => by rw [w, beq_self_eq_true] at q4; cases q4) (fun w => by rw [w, beq_self_eq_true] at q5; cases q5) (fun w => by rw [w, beq_self_eq_true] at q6; cases q6) q7 (soundEs _ _ X b.toGood _ es).2.1
    | _ => exact ff h
  | .ife d as bs, X, b, st, h => by
    cases st with
    | If d' a' b' pos =>
      simp only [ckS, Bool.and_eq_true] at h
      exact s_if ((soundE d _ X b.toGood d' h.1.1.1).2 h.1.1.2) (soundSs as X b a' h.1.2) (soundSs bs X b b' h.2)
    | _ => exact ff h
  | .whl d bs, X, b, st, h => by
    cases st with
    | While d' b' el pos =>
      simp only [ckS, Bool.and_eq_true] at h
      cases el with
      | nil => exact s_whl b ((soundE d _ X b.toGood d' h.1.1.1).2 h.1.1.2) (soundSs bs X b b' h.1.2)
      | cons _ _ => exact ff h.2
    | _ => exact ff h
  | .for_ tg it bs, X, b, st, h => by
    cases st with
    | For tg' it' b' el pos =>
      simp only [ckS, Bool.and_eq_true] at h
      cases el with
      | nil =>
        obtain ⟨p1, p2⟩ := soundI it _ X b.toGood tg' it' h.1.1.2
        exact s_for b p1 p2 (ckTg_pg h.1.1.1 b.N b.nd b.calm fun x hl _ => b.fn x hl) (soundSs bs X b b' h.1.2)
      | cons _ _ => exact ff h.2
    | _ => exact ff h
  | .brk, X, b, st, h => by
    cases st with
    | Break pos => exact s_brk
    | _ => exact ff h
  | .cnt, X, b, st, h => by
    cases st with
    | Continue pos => exact s_cnt
    | _ => exact ff h
  | .pass, X, b, st, h => by
    cases st with
    | Pass pos => exact s_pass
    | _ => exact ff h
  | .ndef i j js, X, b, st, h => by
    cases st with
    | FunctionDef name params body ds rt tps scope tsc bd pos =>
      cases ds with
      | cons _ _ => exact ff h
      | nil =>
        cases rt with
        | some _ => exact ff h
        | none =>
          cases tps with
          | cons _ _ => exact ff h
          | nil =>
            cases tsc with
            | some _ => exact ff h
            | none =>
              simp only [ckS, Bool.and_eq_true, decide_eq_true_eq] at h
              obtain ⟨⟨⟨⟨⟨⟨⟨h0, h1⟩, h2⟩, h3⟩, h4⟩, h5⟩, h6⟩, h7⟩ := h
              subst h7
              exact s_ndef b (b.top h0) h1 h2 h3 h4 h5 h6
    | _ => exact ff h
  | .rai j m, X, b, st, h => by
    obtain ⟨⟨x, a, p1, p2, p3⟩, h0, hh⟩ := okO_of h
    have he := raiE_of h0
    subst he
    simp only [Bool.and_eq_true, decide_eq_true_eq] at hh
    obtain ⟨⟨h1, h2⟩, h3⟩ := hh
    exact s_rai b h1 h2 (soundE m _ X b.toGood a h3).1 (ck_plain h3)
  | .tryR f es j d, X, b, st, h => by
    cases st with
    | Try bb hs el fi pos =>
      cases el with
      | cons _ _ => exact ff h
      | nil =>
        cases fi with
        | cons _ _ => exact ff h
        | nil =>
          obtain ⟨⟨x, ls, p1, p2, p3⟩, h0, hh⟩ := okO_of h
          obtain ⟨⟨y, sb, p4, p5⟩, h0', hh⟩ := okO_of hh
          obtain ⟨⟨kk, n, p6, p7⟩, h0'', hh⟩ := okO_of hh
          have e1 := retC_of h0
          have e2 := hdE_of h0'
          have e3 := retK_of h0''
          dsimp only at e1 e2 e3
          subst e1
          subst e3
          subst e2
          have hh2 : (glB X.env.scope x && decide (c.fns[f]? = some x) && decide (f < mB) && ckEs c X.env.scope es ls && glB X.env.scope y && decide (c.exs[j]? = some y) && conK d kk && !ls.isEmpty) = true := hh
          simp only [Bool.and_eq_true, decide_eq_true_eq, Bool.not_eq_true'] at hh2
          obtain ⟨⟨⟨⟨⟨⟨⟨h1, h2⟩, h3⟩, h4⟩, h5⟩, h6⟩, h7⟩, h8⟩ := hh2
          exact s_tryR b h1 h2 h3 h4 h5 h6 h7 h8 fun X' g' hl' => let ⟨_, q1, q2, q3, _⟩ := soundEs es _ X' g' ls hl'; ⟨q1, q2, q3⟩
    | _ => exact ff h
theorem soundSs : ∀ (s : List Mu.S) (X : Cx) (b : Body X S O c C k F W) (st : List Stmt), ckSs c X.env.scope s st = true → PSs X st (tvS X.K S O W (evSs C F s))
  | [], X, b, st, h => by
    cases st with
    | nil => exact s_nil
    | cons _ _ => exact ff h
  | s :: ss, X, b, st, h => by
    cases st with
    | nil => exact ff h
    | cons t ts =>
      simp only [ckSs, Bool.and_eq_true] at h
      exact s_cons (soundS s X b t h.1) (soundSs ss X b ts h.2)
end
end Mu

namespace Mu
open PySem PySem.Spec PyProof.Rows L2 LamX NdefX
variable {S : ST} {O : OF}

/-! ### a made function is called -/
theorem RVs.any {K : PySem.W.Frag} {M : Nat → Addr} {G : Hp} : ∀ {vs : List V} {ws : List Val}, RVs K S noO M G vs ws → RVs K S O M G vs ws
  | _, _, .nil => .nil
  | _, _, .cons h t => .cons h.any (RVs.any t)
theorem RC.rv {K : PySem.W.Frag} {M : Nat → Addr} {G : Hp} {v : V} {w : Val} (h : RC K S G v w) : RV K S O M G v w := by
  cases h with
  | d h => exact .d h
  | c h hc ck ky inj nd cs => exact .c (.c h hc ck ky inj nd cs)
theorem RVs.append {K : PySem.W.Frag} {M : Nat → Addr} {G : Hp} : ∀ {vs vs' : List V} {ws ws' : List Val}, RVs K S O M G vs ws → RVs K S O M G vs' ws' → RVs K S O M G (vs ++ vs') (ws ++ ws')
  | _, _, _, _, .nil, h => h
  | _, _, _, _, .cons h t, h' => .cons h (RVs.append t h')
theorem RVs.leD {K : PySem.W.Frag} {M : Nat → Addr} {G H : Hp} (e : LeD G H) : ∀ {vs : List V} {ws : List Val}, RVs K S O M G vs ws → ws.all plainV = true → RVs K S O M H vs ws
  | _, _, .nil, _ => .nil
  | _, _, .cons h t, n => by
    rw [List.all_cons, Bool.and_eq_true] at n
    refine .cons ?_ (RVs.leD e t n.2)
    cases h with
    | d h => exact .d (h.leD e)
    | p i => exact .p i
    | c h => exact absurd n.1 (by simp [plainV])
    | o h hc w => exact absurd n.1 (by simp [plainV])
theorem RCs.length {K : PySem.W.Frag} {G : Hp} {cl : List (Str × Addr)} : ∀ {fr : List Str} {env : List Val}, RCs K S G cl fr env → env.length = fr.length
  | [], _, h => by cases h; rfl
  | _ :: fr, _, h => by
    cases h with
    | cons _ _ _ _ _ t => exact congrArg (· + 1) (RCs.length t)
/-- the values of the captured names -/
theorem RCs.vals {K : PySem.W.Frag} {M : Nat → Addr} {G : Hp} {cl : List (Str × Addr)} : ∀ {fr : List Str} {env : List Val}, RCs K S G cl fr env →
    ∃ vs : List V, vs.length = fr.length ∧ RVs K S O M (dropC G (cellOf cl)) vs env ∧ ∀ (i : Nat) (y : Str), fr[i]? = some y → ∃ c o u v, cl.lookup y = some c ∧ G c = some (CelO c o) ∧ o.data = .cell (some u) ∧ vs[i]? = some v ∧ RelV v u
  | [], _, h => by cases h; exact ⟨[], rfl, .nil, fun i y e => by simp at e⟩
  | y :: fr, _, h => by
    cases h with
    | cons h1 h2 h3 rv r t =>
      rename_i w ws c o u v
      obtain ⟨vs, a, b, d⟩ := RCs.vals (M := M) t
      refine ⟨v :: vs, congrArg (· + 1) a, .cons r.rv b, fun i z e => ?_⟩
      cases i with
      | zero => simp at e; subst e; exact ⟨c, o, u, v, h1, h2, h3, rfl, rv⟩
      | succ i => obtain ⟨c2, o2, u2, v2, k1, k2, k3, k4, k5⟩ := d i z (by simpa using e); exact ⟨c2, o2, u2, v2, k1, k2, k3, by simpa using k4, k5⟩
/-- what the text of a made function must be -/
structure CloOk (S : ST) (fns cons exs : List Str) (fs : List FD) (j : Nat) (txt : CTxt) : Prop where
  ex : ∃ (fd : FD) (N ps : List Str) (m : MkI), fs[j]? = some fd ∧ j < mB ∧ NScope N ps (S.fr j) txt.scope ∧ fd.ps = ps.length + (S.fr j).length ∧ N.length = fd.n ∧ m.top = false ∧ (∀ j t, m.chk j t = true → S.chk j t = true) ∧ (∀ j, m.fr j = S.fr j) ∧
    (∀ (cf : CF) (doc pm ctv : Value) (us : List Value), cf.txt = txt → us.length = ps.length → bindArgs (cf.fd doc pm ctv) ⟨us, []⟩ = pure (ps.zip us)) ∧
    match txt.body with
    | .stmts b => ckSs ⟨N, fns, cons, exs, m⟩ txt.scope fd.body b = true
    | .expr e => ∃ me, fd.body = [.ret me] ∧ ckE ⟨N, fns, cons, exs, m⟩ txt.scope me e = true
structure World' (K : PySem.W.Frag) (mg : Str → Option Value) (cons exs : List Str) (C : Cons) : Prop where
  exo : ∀ (j : Nat) (x : Str), exs[j]? = some x → ExOk K mg x
  blt : ∀ x ∈ bltNames, mg (x : Str) = none
  con : ∀ (n : Nat) (x : Str) (d : D), cons[n]? = some x → C n = some d → ∃ u v, mg x = some u ∧ RelV v u ∧ Rp K (fun _ => none) v d
theorem endD_ok {O' : OF} {K : PySem.W.Frag} {Fr : Hp} {M M' : Nat → Addr} {G H : Hp} {μ μ1 μ' : Store} {v r : Val} {u : V} (s : SS K S Fr M' G H μ1) (x : Xt M μ.length M' μ1.length) (rv : RV K S O M' G u v) (e : endD μ v μ1 = some (r, μ')) :
    ∃ G', Le G G' ∧ SS K S Fr M G' H μ' ∧ μ'.length = μ.length ∧ RV K S O' M G' u r := by
  unfold endD at e
  split at e
  rotate_left
  · cases e
  rename_i hl
  have ln : ∀ ν : Store, ν.length = μ1.length → (ν.take μ.length).length = μ.length := fun ν h => by rw [List.length_take]; omega
  have back : ∀ {G2 : Hp} {ν : Store}, SS K S Fr M' G2 H ν → ν.length = μ1.length → SS K S Fr M G2 H (ν.take μ.length) := fun {G2 ν} s2 h => (s2.take μ.length).reM fun i hi => by
    rw [ln ν h] at hi
    exact (x.1 i hi).symm
  split at e
  · rename_i d
    cases e
    cases rv with
    | d rv => exact ⟨G, Le.rfl' _, back s rfl, ln _ rfl, .d rv⟩
  · rename_i i
    cases rv
    split at e
    · rename_i hi
      cases e
      refine ⟨G, Le.rfl' _, back s rfl, ln _ rfl, ?_⟩
      rw [x.1 i hi]
      exact .p i
    · rename_i hi
      obtain ⟨d, e1, e⟩ := Option.map_eq_some_iff.mp e
      cases e
      unfold deref at e1
      simp only at e1
      split at e1
      · rename_i ds hd
        cases e1
        obtain ⟨G2, l2, s2, r2⟩ := s.frz hd
        have ht : (μ1.set i none).take μ.length = μ1.take μ.length := by
          rw [List.take_set_of_le (by omega)]
        have b := back s2 (by simp)
        rw [ht] at b
        exact ⟨G2, l2, b, ln _ rfl, .d r2⟩
      · cases e1
  · cases e
theorem rr_start {K : PySem.W.Frag} {M : Nat → Addr} {G : Hp} : ∀ {vs : List V} {ws : List Val} {n : Nat}, RVs K S O M G vs ws → RR K S O M G (ws.map some ++ List.replicate n none) (vs.map some ++ List.replicate n none) := by
  intro vs ws n r
  refine ⟨by simp [r.length], fun i w e => ?_⟩
  have hi : i < ws.length := by
    by_cases h : i < ws.length
    · exact h
    · rw [List.getElem?_append_right (by simp; omega), List.getElem?_replicate] at e
      split at e <;> cases e
  rw [List.getElem?_append_left (by simpa using hi), List.getElem?_map] at e
  have hv : i < vs.length := by rw [r.length]; exact hi
  rw [List.getElem?_append_left (by simpa using hv), List.getElem?_map]
  have key : ∀ {vs : List V} {ws : List Val} {i : Nat} {w : Val}, RVs K S O M G vs ws → ws[i]? = some w → ∃ v, vs[i]? = some v ∧ RV K S O M G v w := by
    intro vs ws i w r
    induction r generalizing i with
    | nil => intro h; simp at h
    | cons h t ih =>
      intro e
      cases i with
      | zero => simp at e; subst e; exact ⟨_, rfl, h⟩
      | succ i =>
        obtain ⟨v, a, b⟩ := ih (i := i) (by simpa using e)
        exact ⟨v, by simpa using a, b⟩
  cases q : ws[i]? with
  | none => rw [q] at e; cases e
  | some w' =>
    rw [q] at e
    cases e
    obtain ⟨v, a, b⟩ := key r q
    exact ⟨v, by rw [a]; rfl, b⟩
theorem bd_start {ws : List Val} {μ : Store} {n : Nat} (h : ws.all (bdV μ) = true) : Bd (ws.map some ++ List.replicate n none) μ.length := fun i j e => by
  have hi : i < ws.length := by
    by_cases h : i < ws.length
    · exact h
    · rw [List.getElem?_append_right (by simp; omega), List.getElem?_replicate] at e
      split at e <;> cases e
  rw [List.getElem?_append_left (by simpa using hi), List.getElem?_map] at e
  cases q : ws[i]? with
  | none => rw [q] at e; cases e
  | some w' =>
    rw [q] at e
    cases e
    have := List.all_eq_true.mp h _ (List.mem_of_getElem? q)
    simpa [bdV] using this

theorem cel_of {K : PySem.W.Frag} {G : Hp} {cl : List (Str × Addr)} {fr : List Str} {env : List Val} (ky : ∀ y c, cl.lookup y = some c → y ∈ fr) (h : RCs K S G cl fr env) : Cel (cellOf cl) G := fun b ⟨y, e⟩ => by
  obtain ⟨vs, _, _, h3⟩ := RCs.vals (M := fun _ => 0) (O := noO) h
  obtain ⟨i, hi⟩ := List.mem_iff_getElem?.mp (ky y b e)
  obtain ⟨c, o, u, v, k1, k2, k3, _, _⟩ := h3 i y hi
  rw [e] at k1
  cases k1
  exact ⟨o, _, k2, k3⟩
theorem startF_eq {N : List Str} {vs vsE : List V} {n : Nat} (h : N.length - vs.length - vsE.length = n) : startF N vs (vsE.map some) = (vs ++ vsE).map some ++ List.replicate n none := by
  unfold startF
  rw [List.length_map, h, List.map_append, List.append_assoc]
theorem run_clo {P : Program} {w : World} {K : PySem.W.Frag} {mg : Str → Option Value} {base : Heap} {fns cons exs : List Str} {C : Cons} {fs : List FD} {k j : Nat} {F : Calls} {m0 : MkI} {cf : CF} (W : World' K mg cons exs C) (D : CloOk S fns cons exs fs j cf.txt)
    (calls : CallsOk P w K S mg base ⟨[], fns, cons, exs, m0⟩ k F) {ws env : List Val} {μ : Store} {r : Val} {μ' : Store} (plv : ws.all plainV = true) (e : ((fs[j]?).bind fun fd => runD C F fd (ws ++ env) μ) = some (r, μ'))
    {A : Around} {outer : List Env} {s : Shared} {H : Hp} {us : List Value} {vs : List V} {Q : VK} {Fr : Hp} {M : Nat → Addr} {G : Hp} {f : Addr} (hr : Room (k + 1) A) (hgr : A.guards = some []) (e0 : Env0 P w K mg base A outer s H) (rv : Vals vs us)
    (ss : SS K S Fr M G H μ) (rws : RVs K S noO M G vs ws) (hf : G f = some (CloO f cf)) (hc : G cf.c = some (CodeO cf.c cf.qual)) (ky : ∀ y c, cf.cl.lookup y = some c → y ∈ S.fr j) (inj : ∀ x y c, cf.cl.lookup x = some c → cf.cl.lookup y = some c → x = y) (nd : (S.fr j).Nodup)
    (cs : RCs K S G cf.cl (S.fr j) env) (q : ∀ v H' G', Le G G' → SS K S Fr M G' H' μ' → μ'.length = μ.length → RV K S noO M G' v r → Q v H') :
    codeAny (model P w) A (.call (.ref f) ⟨us, []⟩) (CR CX0 outer P w H s Q E0) s := by
  obtain ⟨fd, N, ps, m, hj, hjb, NS, hps, hn, htop, hchk, hfr, hbind, hbody⟩ := D.ex
  rw [hj, Option.bind_some] at e
  unfold runD at e
  split at e
  rotate_left
  · cases e
  rename_i hws
  obtain ⟨⟨fl, ρ', μ1⟩, e1, e⟩ := bnd e
  have cel := cel_of ky cs
  obtain ⟨vsE, lE, rE, atE⟩ := RCs.vals (M := M) (O := noO) cs
  have len1 : vs.length = ps.length := by
    have h1 := hws.1
    have h2 := rws.length
    have h3 := cs.length
    rw [List.length_append, hps] at h1
    omega
  have celH : Cel (cellOf cf.cl) H := fun b hb => let ⟨o, v, e, d⟩ := cel b hb; ⟨o, v, ss.sub _ _ e, d⟩
  have ss1 := ss.dropC e0.hok cel
  have rws1 : RVs K S noO M (dropC G (cellOf cf.cl)) (vs ++ vsE) (ws ++ env) := (rws.leD (leD_drop cel) plv).append rE
  have e1' : Env0 P w K mg base A outer s (dropC H (cellOf cf.cl)) := ⟨e0.frames, e0.mod, fun b o h => ⟨(e0.bs b o h).1, dropC_none (e0.bs b o h).2⟩, e0.bsz, e0.funs, fun b h => dropC_none (e0.frf b h), hok_drop e0.hok celH, e0.bare⟩
  have CA : CellsAt cf.cl (S.fr j) (vsE.map some) s.heap (dropC H (cellOf cf.cl)) := by
    refine ⟨by rw [List.length_map]; exact lE, fun y a h => ⟨dropC_in ⟨y, h⟩, ?_⟩, inj, fun i y h => ?_⟩
    · obtain ⟨o, v, h1, h2⟩ := celH a ⟨y, h⟩
      exact ⟨v, o, celO_at e0.hok h1, h2⟩
    · obtain ⟨a, o, u, v, k1, k2, k3, k4, k5⟩ := atE i y h
      refine ⟨a, k1, fun v' ev => ⟨u, ?_, o, celO_at e0.hok (ss.sub _ _ k2), k3⟩⟩
      rw [List.getElem?_map, k4] at ev
      cases ev
      exact k5
  have lim : s.heap.NoLimit := e0.mod.nolimit.keeps fun b o h => (e0.bs b o h).1
  obtain ⟨⟨od, sl, doc, pm, ctv, ho⟩, _, _⟩ := e0.hok f _ (ss.sub _ _ hf)
  have hcd : s.heap.CodeRec (.ref cf.c) cf.qual := codeO_at e0.hok (ss.sub _ _ hc)
  -- at the heap without the cells
  suffices h : codeAny (model P w) A (.call (.ref f) ⟨us, []⟩) (CR CX0 outer P w (dropC H (cellOf cf.cl)) s (fun v H'' => ∃ G'', Le (dropC G (cellOf cf.cl)) G'' ∧ SS K S Fr M G'' H'' μ' ∧ μ'.length = μ.length ∧ RV K S noO M G'' v r) E0) s by
    refine codeAny_mono h fun res s' hq => ?_
    cases res with
    | error er => exact False.elim hq
    | ok fl =>
      cases fl with
      | ret u =>
        refine ce_mix e0.hok celH e0.frf hq fun v H'' fre ⟨G'', l, sg, n2, rv2⟩ => ?_
        obtain ⟨s3, l3, l4⟩ := sg.mix l fre (fun b o _ h => ss.sub b o h) ss.tab.nt
        exact q v _ _ l3 s3 n2 (rv2.mono l4)
      | next => exact False.elim hq
      | brk => exact False.elim hq
      | cont => exact False.elim hq
  obtain ⟨name, qual, ⟨params, body, scope⟩, cl, cc⟩ := cf
  let nf : NF := ⟨name, qual, params, [], scope, cl, cc⟩
  have NS' : NScope N ps (S.fr j) nf.scope := NS
  have nl : N.length - vs.length - vsE.length = fd.n - fd.ps := by rw [hn, hps, lE, len1]; omega
  have st0 := startF_eq nl
  have stepI : ∀ (h₁ : Heap), h₁.Ns s.heap.objs.size (fun y => (ps.zip us).reverse.lookup y) → (∀ b o, s.heap.get? b = some o → h₁.get? b = some o) →
      Inv (ncx CX0 P w K mg base N nf f A outer s (dropC H (cellOf cl)) E0).nox [] (startF N vs (vsE.map some)) (dropC H (cellOf cl)) { s with heap := h₁, toks := s.toks + (ps.zip us).length } := fun h₁ hns kp =>
    (inv_startN (F := nf) NS' hr.hd e1' len1 rv CA hns kp).wish _
  have B : Body (ncx CX0 P w K mg base N nf f A outer s (dropC H (cellOf cl)) E0).nox S noO ⟨N, fns, cons, exs, m⟩ C k F (fun _ _ _ => False) :=
    { chk := hchk, fr := hfr, top := (fun z => absurd ((show m.top = true from z).symm.trans htop) (by decide)), tk := fun u s' ⟨_, _, _, _, _, _, _, _, _, _, _, _, _, _, _, _, _, _, _, _, _, _, _, z⟩ => z.elim, exo := W.exo, stk := rfl, frm := rfl, N := rfl, nd := NS.nd, calm := rfl, room := hr.deeper _, grd := hgr, blt := W.blt, con := W.con, calls := calls,
      fn := fun x hx => .inr (by
        rcases loc_of hx with z | z
        · exact z
        · exact absurd rfl (NS'.nocell _ (PySem.mem_of_lookup z))), pown := PassesOwn.never, knd := NS.kind }
  have atS : At K S noO Fr M (dropC G (cellOf cl)) (dropC H (cellOf cl)) μ ((ws ++ env).map some ++ List.replicate (fd.n - fd.ps) none) (startF N vs (vsE.map some)) := ⟨ss1, by rw [st0]; exact rr_start rws1, bd_start hws.2⟩
  have fin : ∀ {v : V} {u : Value} {σ2 : L2.St} {H2 : Hp} {s2 : Shared}, Inv (ncx CX0 P w K mg base N nf f A outer s (dropC H (cellOf cl)) E0).nox [] σ2 H2 s2 → RelV v u → (∃ G'', Le (dropC G (cellOf cl)) G'' ∧ SS K S Fr M G'' H2 μ' ∧ μ'.length = μ.length ∧ RV K S noO M G'' v r) →
      CE outer P w (dropC H (cellOf cl)) s (fun v H'' => ∃ G'', Le (dropC G (cellOf cl)) G'' ∧ SS K S Fr M G'' H'' μ' ∧ μ'.length = μ.length ∧ RV K S noO M G'' v r) u s2 :=
    fun {v u σ2 H2 s2} J rv' q' => ⟨v, H2, J.os, J.bare, J.base, J.hok, rv', q'⟩
  cases body with
  | stmts b =>
    refine codeAny_call_function hr.depth ho rfl NS.co NS.gen rfl hcd ?_
    rw [hbind _ doc pm ctv us rfl (by rw [← rv.length]; exact len1)]
    refine wpAny_pure (wpAny_newFunctionEnv NS.nocell (fun ⟨n, _⟩ hy => NS.par n (List.of_mem_zip hy).1) (fun h₁ hns hsb => ⟨lim.fresh _ hsb, ?_⟩) NS.kind)
    refine codeAny_func ?_
    have kp : ∀ b o, s.heap.get? b = some o → h₁.get? b = some o := fun b o e => hsb.extBut b o (Nat.ne_of_lt (Heap.lt_size e)) (Heap.get?_push_of_some _ e)
    have I := stepI h₁ hns kp
    have snd := soundSs fd.body _ B b hbody
    have main := snd.run [] _ _ _ { nx := fun _ H2 => ∃ G'', Le (dropC G (cellOf cl)) G'' ∧ SS K S Fr M G'' H2 μ' ∧ μ'.length = μ.length ∧ RV K S noO M G'' .non r, rt := fun v H2 => ∃ G'', Le (dropC G (cellOf cl)) G'' ∧ SS K S Fr M G'' H2 μ' ∧ μ'.length = μ.length ∧ RV K S noO M G'' v r } I
      ⟨Fr, M, _, _, μ, fl, ρ', μ1, atS, e1, fun σ' H' G' M' l a xt => by
        cases fl with
        | nx => exact let ⟨G2, l2, s2, n2, r2⟩ := endD_ok (O := noO) a.ss xt (.d (.non : Rp K G' .non .none)) e; ⟨G2, l.trans l2, s2, n2, r2⟩
        | ret v => exact fun u ru => let ⟨G2, l2, s2, n2, r2⟩ := endD_ok a.ss xt ru e; ⟨G2, l.trans l2, s2, n2, r2⟩
        | bk => cases e
        | ct => cases e
        | xc j => cases e⟩
    refine wpAny_mono main (fun f2 s2 h2 => ?_) fun _ _ h2 => h2.elim
    cases f2 with
    | ret u =>
      obtain ⟨v, σ2, H2, J, rv', q'⟩ := h2
      exact fin J rv' q'
    | next =>
      obtain ⟨σ2, H2, J, q'⟩ := h2
      exact fin (v := .non) (u := .none) J rfl q'
    | brk =>
      obtain ⟨_, _, _, q'⟩ := h2
      exact q'.elim
    | cont =>
      obtain ⟨_, _, _, q'⟩ := h2
      exact q'.elim
  | expr x =>
    obtain ⟨me, hfd, hck⟩ := hbody
    rw [hfd] at e1
    simp only [evSs, evS] at e1
    obtain ⟨⟨fl2, ρ2, μ2⟩, e2, e3⟩ := bnd e1
    obtain ⟨⟨v2, μ3⟩, e4, e5⟩ := bnd e2
    cases e5
    cases e3
    refine PySem.W.kla_callFunE hr.depth ho rfl NS.co NS.gen rfl hcd ?_
    rw [hbind _ doc pm ctv us rfl (by rw [← rv.length]; exact len1)]
    refine wpAny_pure (wpAny_newFunctionEnv NS.nocell (fun ⟨n, _⟩ hy => NS.par n (List.of_mem_zip hy).1) (fun h₁ hns hsb => ⟨lim.fresh _ hsb, ?_⟩) NS.kind)
    refine PySem.W.kla_codeExpr ?_
    have kp : ∀ b o, s.heap.get? b = some o → h₁.get? b = some o := fun b o e => hsb.extBut b o (Nat.ne_of_lt (Heap.lt_size e)) (Heap.get?_push_of_some _ e)
    have I := stepI h₁ hns kp
    have snd := (soundE me _ _ B.toGood x hck).1
    have main := snd.run [] _ _ _ (fun v H2 => ∃ G'', Le (dropC G (cellOf cl)) G'' ∧ SS K S Fr M G'' H2 μ' ∧ μ'.length = μ.length ∧ RV K S noO M G'' v r) I
      ⟨Fr, M, _, _, μ, v2, μ3, atS.ss, atS.rr, e4, fun v H' G' l s' n' rv' => by
        have e' : endD μ v2 μ3 = some (r, μ') := e
        obtain ⟨G2, l2, s2, n2, r2⟩ := endD_ok s' (.eq M n') rv' e'
        exact ⟨G2, l.trans l2, s2, n2, r2⟩⟩
    refine wpAny_mono main (fun u s2 h2 => ?_) fun _ _ h2 => h2.elim
    obtain ⟨v, H2, J, rv', q'⟩ := h2
    exact fin J rv' q'
end Mu

namespace Mu
open PySem PySem.Spec PyProof.Rows L2 LamX NdefX
variable {S : ST} {O : OF}

/-! ### defs -/
/-- the facts of a def of the text -/
structure DefOk (K : PySem.W.Frag) (S : ST) (mks : List (Addr × Addr)) (mg : Str → Option Value) (fns cons exs : List Str) (x : Str) (fd : FD) : Prop where
  ex : ∃ (y : Str) (N ps : List Str) (st : Stmt) (f : Addr) (fdat : FuncData) (m : MkI), mg x = some (.ref f) ∧ Fun K y y st f fdat ∧ FnScope N ps (defScope st) ∧ Binds K fdat ps [] ∧ ckSs ⟨N, fns, cons, exs, m⟩ (defScope st) fd.body (defBody st) = true ∧ ps.length = fd.ps ∧ N.length = fd.n ∧
    (∀ j t, m.chk j t = true → S.chk j t = true) ∧ (∀ j, m.fr j = S.fr j) ∧
    (m.top = true → m.q = y ++ (".<locals>." : Str) ∧ ∃ cc P : Addr, fdat.code = .ref cc ∧ (cc, P) ∈ mks ∧ (P, m.nm) ∈ S.tabs ∧ ∀ p ∈ S.tabs, p.1 = P → p.2 = m.nm)
/-- the body's context -/
theorem top_ok {P : Program} {w : World} {K : PySem.W.Frag} {mks : List (Addr × Addr)} {mg : Str → Option Value} {base : Heap} {N : List Str} {y : Str} {sc : Scope} {f : Addr} {cdv : Value} {A : Around} {outer : List Env} {s : Shared} {H : Hp} {E : XK} {CX : CXT} {c : Sc} (TBs : ∀ p ∈ mks, TabB base mg p.1 p.2)
    (h : c.m.q = y ++ (".<locals>." : Str) ∧ ∃ cc P : Addr, cdv = .ref cc ∧ (cc, P) ∈ mks ∧ (P, c.m.nm) ∈ S.tabs ∧ ∀ p ∈ S.tabs, p.1 = P → p.2 = c.m.nm) :
    TopOk (cxOf CX P w K mg base N y sc f cdv A outer s H E) c S (ownOf (cxOf CX P w K mg base N y sc f cdv A outer s H E) S) := by
  obtain ⟨hq, cc, Pt, h1, h2, h3, h4⟩ := h
  exact ⟨rfl, ⟨cc, Pt, h1, TBs _ h2, h3, h4⟩, hq.symm, fun _ => rfl⟩
/-- a def's body from its call to its end -/
theorem run_gen {P : Program} {w : World} {K : PySem.W.Frag} {mg : Str → Option Value} {base : Heap} {fns cons exs : List Str} {C : Cons} {k : Nat} {F : Calls} {x : Str} {fd : FD} (W : World' K mg cons exs C) {mks : List (Addr × Addr)} {m0 : MkI} (D : DefOk K S mks mg fns cons exs x fd) (TBs : ∀ p ∈ mks, TabB base mg p.1 p.2)
    (calls : CallsOk P w K S mg base ⟨[], fns, cons, exs, m0⟩ k F) {ws : List Val} {μ : Store} {fl : Flow} {ρ' : Rho} {μ1 : Store} (hws : ws.length = fd.ps ∧ ws.all (bdV μ) = true)
    (e1 : evSs C F fd.body (ws.map some ++ List.replicate (fd.n - fd.ps) none) μ = some (fl, ρ', μ1)) : ∃ f : Addr, mg x = some (.ref f) ∧ PySem.W.keepIn K (.ref f) = true ∧
    ∀ (A : Around) (outer : List Env) (s : Shared) (H : Hp) (us : List Value) (vs : List V) (Q : VK) (Fr : Hp) (M : Nat → Addr) (G : Hp), Room (k + 1) A → A.guards = some [] → Env0 P w K mg base A outer s H → Vals vs us →
      SS K S Fr M G H μ → RVs K S noO M G vs ws → (∀ M' H' G', Le G G' → SS K S Fr M' G' H' μ1 → Xt M μ.length M' μ1.length → match fl with | .nx => Q .non H' | .ret w => ∀ (O : OF) u, RV K S O M' G' u w → Q u H' | _ => False) →
      codeAny (model P w) A (.call (.ref f) ⟨us, []⟩) (CR CX0 outer P w H s Q E0) s := by
  obtain ⟨y, N, ps, st, f, fdat, m, hm, DF, NS, hb, hck, hps, hn, hchk, hfr, htop⟩ := D.ex
  refine ⟨f, hm, DF.kp, ?_⟩
  obtain ⟨oc, od, kV, doc, pm, an, cdv, ct, osl, rfl, lk, hcd⟩ := DF.ex
  intro A outer s H us vs Q Fr M G hr hgr e0 rv ss rws q
  have lv : vs.length = ps.length := by rw [rws.length, hws.1, hps]
  have KX : K.In s.heap := e0.mod.kin.keeps fun b o h => (e0.bs b o h).1
  have lim : s.heap.NoLimit := e0.mod.nolimit.keeps fun b o h => (e0.bs b o h).1
  have par := NS.par
  have hk : ∀ y ∈ ps.zip us, (defScope st).names.lookup y.1 = some .local ∨ ((defScope st).names.lookup y.1 = some .cell ∧ ((cellsFrom (s.heap.objs.size + 1) (defScope st).names []).lookup y.1).isSome = true) := by
    rintro ⟨n, v⟩ hy
    rcases par n (List.of_mem_zip hy).1 with h | h
    · exact .inl h
    · exact .inr ⟨h, PySem.W.cellsFrom_some _ _ _ (.inl h)⟩
  have hbind := hb s us KX (by rw [List.append_nil, ← rv.length]; exact lv)
  rw [List.append_nil] at hbind
  refine codeAny_call_function hr.depth (KX _ _ lk) rfl NS.co NS.gen rfl (PySem.W.codeRec_of KX hcd) (hbind _ _ _ _ (wpAny_newFunctionEnv_cells NS.kind hk fun env he s1 x1 => ?_))
  subst he
  refine ⟨lim.keeps x1.toInCall.keep, codeAny_func ?_⟩
  have I0 := inv_start (CX := CX0) (E := E0) NS hr.hd e0 lv rv x1
  generalize hX : cxOf CX0 P w K mg base N y (defScope st) f cdv A outer s H E0 = X0 at I0
  have I := I0.wish (fun _ _ => False)
  have B : Body X0.nox S (ownOf X0 S) ⟨N, fns, cons, exs, m⟩ C k F (fun _ _ _ => False) := by
    subst hX
    exact { chk := hchk, fr := hfr, top := (fun z => let t := top_ok (c := ⟨N, fns, cons, exs, m⟩) TBs (htop z); ⟨t.own, t.code, t.q, t.fn⟩), tk := fun u s' ⟨_, _, _, _, _, _, _, _, _, _, _, _, _, _, _, _, _, _, _, _, _, _, _, z⟩ => z.elim, exo := W.exo, stk := rfl, frm := rfl, N := rfl, nd := NS.nd, calm := rfl, room := hr.deeper _, grd := hgr, blt := W.blt, con := W.con, calls := calls, fn := fun _ _ => .inl rfl, pown := PassesOwn.never, knd := NS.kind }
  have sc : X0.nox.env.scope = defScope st := by subst hX; rfl
  have snd := soundSs fd.body X0.nox B (defBody st) (by rw [sc]; exact hck)
  have hK : X0.nox.K = K := by subst hX; rfl
  have len0 : N.length - vs.length = fd.n - fd.ps := by rw [hn, lv, hps]
  have st0 : L2.start N vs = vs.map some ++ List.replicate (fd.n - fd.ps) none := by unfold L2.start; rw [len0]
  have main := snd.run [] s1 (L2.start N vs) H { nx := fun _ H' => Q .non H', rt := Q } I (by
    rw [hK, st0]
    refine ⟨Fr, M, G, _, μ, fl, ρ', μ1, ⟨ss, rr_start rws.any, bd_start hws.2⟩, e1, fun σ' H' G' M' l a xt => ?_⟩
    have q' := q M' H' G' l a.ss xt
    cases fl with
    | nx => exact q'
    | ret v => exact q' _
    | bk => exact q'
    | ct => exact q'
    | xc j => exact q')
  subst hX
  refine wpAny_mono main (fun f2 s2 h2 => ?_) fun _ _ h2 => h2.elim
  have fin : ∀ {σ2 : L2.St} {H2 : Hp} {v : V} {u : Value}, Inv (cxOf CX0 P w K mg base N y (defScope st) f cdv A outer s H E0).nox [] σ2 H2 s2 → RelV v u → Q v H2 → CE outer P w H s Q u s2 :=
    fun {σ2 H2 v u} J rv' q' => ⟨v, H2, J.os, J.bare, J.base, J.hok, rv', q'⟩
  cases f2 with
  | ret u =>
    obtain ⟨v, σ2, H2, J, rv', q'⟩ := h2
    exact fin J rv' q'
  | next =>
    obtain ⟨σ2, H2, J, q'⟩ := h2
    exact fin (v := .non) (u := .none) J rfl q'
  | brk =>
    obtain ⟨_, _, _, q'⟩ := h2
    exact q'.elim
  | cont =>
    obtain ⟨_, _, _, q'⟩ := h2
    exact q'.elim
theorem run_def {P : Program} {w : World} {K : PySem.W.Frag} {mg : Str → Option Value} {base : Heap} {fns cons exs : List Str} {C : Cons} {k : Nat} {F : Calls} {x : Str} {fd : FD} (W : World' K mg cons exs C) {mks : List (Addr × Addr)} {m0 : MkI} (D : DefOk K S mks mg fns cons exs x fd) (TBs : ∀ p ∈ mks, TabB base mg p.1 p.2)
    (calls : CallsOk P w K S mg base ⟨[], fns, cons, exs, m0⟩ k F) {ws : List Val} {μ : Store} {r : Val} {μ' : Store} (e : runD C F fd ws μ = some (r, μ')) : ∃ f : Addr, mg x = some (.ref f) ∧ PySem.W.keepIn K (.ref f) = true ∧
    ∀ (A : Around) (outer : List Env) (s : Shared) (H : Hp) (us : List Value) (vs : List V) (Q : VK) (Fr : Hp) (M : Nat → Addr) (G : Hp), Room (k + 1) A → A.guards = some [] → Env0 P w K mg base A outer s H → Vals vs us →
      SS K S Fr M G H μ → RVs K S noO M G vs ws → (∀ v H' G', Le G G' → SS K S Fr M G' H' μ' → μ'.length = μ.length → RV K S noO M G' v r → Q v H') →
      codeAny (model P w) A (.call (.ref f) ⟨us, []⟩) (CR CX0 outer P w H s Q E0) s := by
  unfold runD at e
  split at e
  rotate_left
  · cases e
  rename_i hws
  obtain ⟨⟨fl, ρ', μ1⟩, e1, e⟩ := bnd e
  obtain ⟨f, hm, kp, run⟩ := run_gen W D TBs calls hws e1
  refine ⟨f, hm, kp, fun A outer s H us vs Q Fr M G hr hgr e0 rv ss rws q => run A outer s H us vs Q Fr M G hr hgr e0 rv ss rws fun M' H' G' l s' xt => ?_⟩
  cases fl with
  | nx =>
    obtain ⟨G2, l2, s2, n2, r2⟩ := endD_ok (O := noO) s' xt (.d (.non : Rp K G' .non .none)) e
    exact q _ H' G2 (l.trans l2) s2 n2 r2
  | ret v =>
    intro O u ru
    obtain ⟨G2, l2, s2, n2, r2⟩ := endD_ok s' xt ru e
    exact q _ H' G2 (l.trans l2) s2 n2 r2
  | bk => cases e
  | ct => cases e
  | xc j => cases e
theorem run_defM {P : Program} {w : World} {K : PySem.W.Frag} {mg : Str → Option Value} {base : Heap} {fns cons exs : List Str} {C : Cons} {k : Nat} {F : Calls} {x : Str} {fd : FD} (W : World' K mg cons exs C) {mks : List (Addr × Addr)} {m0 : MkI} (D : DefOk K S mks mg fns cons exs x fd) (TBs : ∀ p ∈ mks, TabB base mg p.1 p.2)
    (calls : CallsOk P w K S mg base ⟨[], fns, cons, exs, m0⟩ k F) {ws : List Val} {μ : Store} {ds : List Mu.D} {μ' : Store} (e : runM C F fd ws μ = some (.d (.list ds), μ')) : ∃ f : Addr, mg x = some (.ref f) ∧ PySem.W.keepIn K (.ref f) = true ∧
    ∀ (A : Around) (outer : List Env) (s : Shared) (H : Hp) (us : List Value) (vs : List V) (Q : VK) (Fr : Hp) (M : Nat → Addr) (G : Hp), Room (k + 1) A → A.guards = some [] → Env0 P w K mg base A outer s H → Vals vs us →
      SS K S Fr M G H μ → RVs K S noO M G vs ws → (∀ p zs H' G', Le G G' → SS K S Fr M G' H' μ' → μ'.length = μ.length → H' p = some (.lst zs) → G' p = none → Fr p = none → (∀ (i : Nat) (es : List Mu.D), μ'[i]? = some (some es) → M i ≠ p) → RpA K G' zs ds → ds.length ≤ sizeLine → Q (.ref p) H') →
      codeAny (model P w) A (.call (.ref f) ⟨us, []⟩) (CR CX0 outer P w H s Q E0) s := by
  unfold runM at e
  split at e
  rotate_left
  · cases e
  rename_i hws
  obtain ⟨⟨fl, ρ', μ1⟩, e1, e⟩ := bnd e
  obtain ⟨f, hm, kp, run⟩ := run_gen W D TBs calls hws e1
  refine ⟨f, hm, kp, fun A outer s H us vs Q Fr M G hr hgr e0 rv ss rws q => run A outer s H us vs Q Fr M G hr hgr e0 rv ss rws fun M' H' G' l s' xt => ?_⟩
  cases fl with
  | nx => cases e
  | bk => cases e
  | ct => cases e
  | xc j => cases e
  | ret v =>
    intro O u ru
    cases v with
    | d _ => cases e
    | c _ _ => cases e
    | o _ _ => cases e
    | p i =>
      cases ru
      simp only [endM] at e
      split at e
      · rename_i hi
        split at e
        · rename_i xs hx
          cases e
          have ln : (μ1.take μ.length).length = μ.length := by rw [List.length_take]; have := xt.2; omega
          obtain ⟨zs, h1, h2, z⟩ := s'.cell i _ hx
          refine q (M' i) zs H' G' l ((s'.take μ.length).reM fun j hj => by rw [ln] at hj; exact (xt.1 j hj).symm) ln h1 (s'.out i _ hx) (s'.frM i _ hx) (fun j es ej => ?_) h2 z
          have hj : j < μ.length := by
            have := (List.getElem?_eq_some_iff.mp ej).1
            omega
          rw [List.getElem?_take_of_lt hj] at ej
          rw [← xt.1 j hj]
          intro q2
          have := s'.inj j i _ _ ej hx q2
          omega
        · cases e
      · cases e
/-- a def's body from its call to its exception -/
theorem run_genX {P : Program} {w : World} {K : PySem.W.Frag} {mg : Str → Option Value} {base : Heap} {fns cons exs : List Str} {C : Cons} {k : Nat} {F : Calls} {x : Str} {fd : FD} (W : World' K mg cons exs C) {mks : List (Addr × Addr)} {m0 : MkI} (D : DefOk K S mks mg fns cons exs x fd) (TBs : ∀ p ∈ mks, TabB base mg p.1 p.2)
    (calls : CallsOk P w K S mg base ⟨[], fns, cons, exs, m0⟩ k F) {ws : List Val} {μ : Store} {jj : Nat} {ρ' : Rho} {μ1 : Store} (hws : ws.length = fd.ps ∧ ws.all (bdV μ) = true)
    (e1 : evSs C F fd.body (ws.map some ++ List.replicate (fd.n - fd.ps) none) μ = some (.xc jj, ρ', μ1)) : ∃ f : Addr, mg x = some (.ref f) ∧ PySem.W.keepIn K (.ref f) = true ∧
    ∀ (A : Around) (outer : List Env) (s : Shared) (H : Hp) (us : List Value) (vs : List V) (E : XK) (Fr : Hp) (M : Nat → Addr) (G : Hp), Room (k + 1) A → A.guards = some [] → Env0 P w K mg base A outer s H → Vals vs us →
      SS K S Fr M G H μ → RVs K S noO M G vs ws → (∀ (y : Str) (Cc : Addr) (M' : Nat → Addr) (H' G' : Hp), exs[jj]? = some y → mg y = some (.ref Cc) → Le G G' → SS K S Fr M' G' H' μ1 → Xt M μ.length M' μ1.length → E (.ref Cc) none H') →
      codeAny (model P w) A (.call (.ref f) ⟨us, []⟩) (CR (L2.CX P w) outer P w H s (fun _ _ => False) E) s := by
  obtain ⟨y, N, ps, st, f, fdat, m, hm, DF, NS, hb, hck, hps, hn, hchk, hfr, htop⟩ := D.ex
  refine ⟨f, hm, DF.kp, ?_⟩
  obtain ⟨oc, od, kV, doc, pm, an, cdv, ct, osl, rfl, lk, hcd⟩ := DF.ex
  intro A outer s H us vs E Fr M G hr hgr e0 rv ss rws q
  have lv : vs.length = ps.length := by rw [rws.length, hws.1, hps]
  have KX : K.In s.heap := e0.mod.kin.keeps fun b o h => (e0.bs b o h).1
  have lim : s.heap.NoLimit := e0.mod.nolimit.keeps fun b o h => (e0.bs b o h).1
  have par := NS.par
  have hk : ∀ y ∈ ps.zip us, (defScope st).names.lookup y.1 = some .local ∨ ((defScope st).names.lookup y.1 = some .cell ∧ ((cellsFrom (s.heap.objs.size + 1) (defScope st).names []).lookup y.1).isSome = true) := by
    rintro ⟨n, v⟩ hy
    rcases par n (List.of_mem_zip hy).1 with h | h
    · exact .inl h
    · exact .inr ⟨h, PySem.W.cellsFrom_some _ _ _ (.inl h)⟩
  have hbind := hb s us KX (by rw [List.append_nil, ← rv.length]; exact lv)
  rw [List.append_nil] at hbind
  refine codeAny_call_function hr.depth (KX _ _ lk) rfl NS.co NS.gen rfl (PySem.W.codeRec_of KX hcd) (hbind _ _ _ _ (wpAny_newFunctionEnv_cells NS.kind hk fun env he s1 x1 => ?_))
  subst he
  refine ⟨lim.keeps x1.toInCall.keep, codeAny_func ?_⟩
  have I := inv_start (CX := L2.CX P w) (E := E) NS hr.hd e0 lv rv x1
  generalize hX : cxOf (L2.CX P w) P w K mg base N y (defScope st) f cdv A outer s H E = X0 at I
  have B : Body X0 S (ownOf X0 S) ⟨N, fns, cons, exs, m⟩ C k F (fun j _ H => ∀ (y : Str) (Cc : Addr), exs[j]? = some y → mg y = some (.ref Cc) → E (.ref Cc) none H) := by
    subst hX
    exact { chk := hchk, fr := hfr, top := (fun z => let t := top_ok (c := ⟨N, fns, cons, exs, m⟩) TBs (htop z); ⟨t.own, t.code, t.q, t.fn⟩), tk := (takes_of (E := E) rfl rfl rfl rfl).imp fun cls d σ H ⟨hd, j, y, Cc, h1, h2, hc, hw⟩ => by rw [hd, hc]; exact hw y Cc h1 h2, exo := W.exo, stk := rfl, frm := rfl, N := rfl, nd := NS.nd, calm := rfl, room := hr.deeper _, grd := hgr, blt := W.blt, con := W.con, calls := calls, fn := fun _ _ => .inl rfl, pown := passes_of rfl, knd := NS.kind }
  have sc : X0.env.scope = defScope st := by subst hX; rfl
  have snd := soundSs fd.body X0 B (defBody st) (by rw [sc]; exact hck)
  have hK : X0.K = K := by subst hX; rfl
  have len0 : N.length - vs.length = fd.n - fd.ps := by rw [hn, lv, hps]
  have st0 : L2.start N vs = vs.map some ++ List.replicate (fd.n - fd.ps) none := by unfold L2.start; rw [len0]
  have main := snd.run [] s1 (L2.start N vs) H { nx := fun _ _ => False, rt := fun _ _ => False } I (by
    rw [hK, st0]
    refine ⟨Fr, M, G, _, μ, .xc jj, ρ', μ1, ⟨ss, rr_start rws.any, bd_start hws.2⟩, e1, fun σ' H' G' M' l a xt => ?_⟩
    exact fun y Cc h1 h2 => q y Cc M' H' G' h1 h2 l a.ss xt)
  subst hX
  refine wpAny_mono main (fun f2 s2 h2 => ?_) fun _ _ h2 => h2
  cases f2 with
  | ret u =>
    obtain ⟨_, _, _, _, _, z⟩ := h2
    exact z.elim
  | next =>
    obtain ⟨_, _, _, z⟩ := h2
    exact z.elim
  | brk =>
    obtain ⟨_, _, _, z⟩ := h2
    exact z.elim
  | cont =>
    obtain ⟨_, _, _, z⟩ := h2
    exact z.elim
theorem run_defX {P : Program} {w : World} {K : PySem.W.Frag} {mg : Str → Option Value} {base : Heap} {fns cons exs : List Str} {C : Cons} {k : Nat} {F : Calls} {x : Str} {fd : FD} (W : World' K mg cons exs C) {mks : List (Addr × Addr)} {m0 : MkI} (D : DefOk K S mks mg fns cons exs x fd) (TBs : ∀ p ∈ mks, TabB base mg p.1 p.2)
    (calls : CallsOk P w K S mg base ⟨[], fns, cons, exs, m0⟩ k F) {ws : List Val} {μ : Store} {i : Int} {μ' : Store} (e : runX C F fd ws μ = some (.d (.int i), μ')) : ∃ f : Addr, mg x = some (.ref f) ∧ PySem.W.keepIn K (.ref f) = true ∧ ∃ jj : Nat, i = jj ∧
    ∀ (A : Around) (outer : List Env) (s : Shared) (H : Hp) (us : List Value) (vs : List V) (E : XK) (Fr : Hp) (M : Nat → Addr) (G : Hp), Room (k + 1) A → A.guards = some [] → Env0 P w K mg base A outer s H → Vals vs us →
      SS K S Fr M G H μ → RVs K S noO M G vs ws → (∀ (y : Str) (Cc : Addr) (H' G' : Hp), exs[jj]? = some y → mg y = some (.ref Cc) → Le G G' → SS K S Fr M G' H' μ' → μ'.length = μ.length → E (.ref Cc) none H') →
      codeAny (model P w) A (.call (.ref f) ⟨us, []⟩) (CR (L2.CX P w) outer P w H s (fun _ _ => False) E) s := by
  unfold runX at e
  split at e
  rotate_left
  · cases e
  rename_i hws
  obtain ⟨⟨fl, ρ', μ1⟩, e1, e⟩ := bnd e
  cases fl with
  | nx => cases e
  | ret v => cases e
  | bk => cases e
  | ct => cases e
  | xc jj =>
    dsimp only at e
    split at e
    rotate_left
    · cases e
    rename_i hl
    cases e
    obtain ⟨f, hm, kp, run⟩ := run_genX W D TBs calls hws e1
    refine ⟨f, hm, kp, jj, rfl, fun A outer s H us vs E Fr M G hr hgr e0 rv ss rws q => run A outer s H us vs E Fr M G hr hgr e0 rv ss rws fun y Cc M' H' G' h1 h2 l s' xt => ?_⟩
    have ln : (μ1.take μ.length).length = μ.length := by rw [List.length_take]; omega
    refine q y Cc H' G' h1 h2 l ((s'.take μ.length).reM fun i hi => ?_) ln
    rw [ln] at hi
    exact (xt.1 i hi).symm
theorem calls_ok {P : Program} {w : World} {K : PySem.W.Frag} {mks : List (Addr × Addr)} {mg : Str → Option Value} {base : Heap} {fns cons exs : List Str} {C : Cons} {fs : List FD} {m0 : MkI} (W : World' K mg cons exs C) (TBs : ∀ p ∈ mks, TabB base mg p.1 p.2)
    (defs : ∀ (j : Nat) (x : Str) (fd : FD), fns[j]? = some x → fs[j]? = some fd → DefOk K S mks mg fns cons exs x fd) (clos : ∀ (j : Nat) (txt : CTxt), S.chk j txt = true → CloOk S fns cons exs fs j txt) : ∀ k, CallsOk P w K S mg base ⟨[], fns, cons, exs, m0⟩ k (callF C fs k)
  | 0 => ⟨fun j x ws μ r μ' hj hb e => by simp [callF] at e, fun j x ws μ ds μ' hj e => by simp [callF] at e, fun j x ws μ i μ' hj e => by simp [callF] at e, fun j txt ws env μ r μ' hj hp e => by simp [callF] at e, fun j ws μ r e => by simp [callF] at e⟩
  | k + 1 => by
    refine ⟨fun j x ws μ r μ' hj hb e => ?_, fun j x ws μ ds μ' hj e => ?_, fun j x ws μ i μ' hj e => ?_, fun j txt ws env μ r μ' hj hp e => ?_, fun j ws μ r e => ?_⟩
    · simp only [callF, if_pos hb] at e
      obtain ⟨fd, h1, h2⟩ := bnd e
      exact run_def W (defs j x fd hj h1) TBs (calls_ok (m0 := m0) W TBs defs clos k) h2
    · have hb : ¬ (mB + j < mB) := by omega
      simp only [callF, if_neg hb] at e
      split at e
      · rw [Nat.add_sub_cancel_left] at e
        obtain ⟨fd, h1, h2⟩ := bnd e
        exact run_defM W (defs j x fd hj h1) TBs (calls_ok (m0 := m0) W TBs defs clos k) h2
      · obtain ⟨fd, h1, h2⟩ := bnd e
        unfold runX at h2
        split at h2
        · obtain ⟨⟨fl, ρ', μ1⟩, e1, h2⟩ := bnd h2
          cases fl with
          | xc jj =>
            dsimp only at h2
            split at h2
            · cases h2
            · cases h2
          | _ => cases h2
        · cases h2
    · have hb : ¬ (xB + j < mB) := by unfold xB mB; omega
      have hb2 : ¬ (xB + j < xB) := by omega
      simp only [callF, if_neg hb, if_neg hb2, Nat.add_sub_cancel_left] at e
      obtain ⟨fd, h1, h2⟩ := bnd e
      exact run_defX W (defs j x fd hj h1) TBs (calls_ok (m0 := m0) W TBs defs clos k) h2
    · have D := clos j txt hj
      have hb : j < mB := let ⟨_, _, _, _, _, h, _⟩ := D.ex; h
      simp only [callF, if_pos hb] at e
      intro A outer s H us vs Q Fr M G f cf htxt hr hgr e0 rv ss rws hf hc ky inj nd cs q
      subst htxt
      exact run_clo W D (calls_ok (m0 := m0) W TBs defs clos k) hp e hr hgr e0 rv ss rws hf hc ky inj nd cs q
    · have key : ws.all (bdV μ) = true → ws.all notO = true := fun h => by
        rw [List.all_eq_true] at h ⊢
        intro v hv
        have := h v hv
        cases v <;> first | rfl | exact absurd this (by simp [bdV])
      simp only [callF] at e
      split at e
      · obtain ⟨fd, h1, h2⟩ := bnd e
        unfold runD at h2
        split at h2
        · rename_i h; exact key h.2
        · cases h2
      · split at e
        · obtain ⟨fd, h1, h2⟩ := bnd e
          unfold runM at h2
          split at h2
          · rename_i h; exact key h.2
          · cases h2
        · obtain ⟨fd, h1, h2⟩ := bnd e
          unfold runX at h2
          split at h2
          · rename_i h; exact key h.2
          · cases h2

/-! ### the law -/
theorem vals_int : ∀ {vs : List Value} {ns : List Int}, IntsAre vs ns → Vals (ns.map V.int) vs
  | _, _, .nil => .nil
  | _, _, .cons _ t h => .cons ⟨t, rfl⟩ (vals_int h)
theorem rpA_ints {K : PySem.W.Frag} {H : Hp} : ∀ ns : List Int, RpA K H (ns.map V.int) (ns.map PyData.int)
  | [] => .nil
  | _ :: ns => .cons (.int _) (rpA_ints ns)

/-- the head of the law in the heap behind the top, from an abstract heap that holds the script and the tables alone -/
theorem law_at {P : Program} {w : World} {K : PySem.W.Frag} {mks : List (Addr × Addr)} {mg mb : Str → Option Value} {fns cons exs : List Str} {C : Cons} {fs : List FD} {j k : Nat} {x : Str} {s : Shared} {fa a : Addr} {vs : List Value} {ns : List Int}
    (inK : K.In s.heap) (main : s.heap.Ns mainGlobals mg) (bl : s.heap.Ns builtinsNs mb) (boot : ∀ y : Str, y ≠ "__name__" → mb y = bootBuiltins y) (free : s.heap.NoLimit) (quiet : s.gens = #[])
    (hT : ∀ p ∈ mks, s.heap.get? p.2 = some { cls := .none, data := .fields #[] }) (nT : ∀ p ∈ mks, K.lookup p.2 = none) (CH : ∀ p ∈ mks, PySem.W.CodeHd s.heap p.1 p.2) (hS : ∀ q ∈ S.tabs, ∃ p ∈ mks, q.1 = p.2)
    (hbm : ∃ (bm : Addr) (ob : Obj), mg "__builtins__" = some (.ref bm) ∧ bm ≠ builtinsNs ∧ s.heap.get? bm = some ob ∧ ob.cls = .type "module" ∧ ob.dict = some builtinsNs ∧ ob.data = .plain)
    (obj : s.heap.get? a = some { cls := .type "list", data := .seq vs.toArray }) (iv : IntsAre vs ns) (room : Room k callerA) (W : World' K mg cons exs C)
    (defs : ∀ (j : Nat) (x : Str) (fd : FD), fns[j]? = some x → fs[j]? = some fd → DefOk K S mks mg fns cons exs x fd) (clos : ∀ (j : Nat) (txt : CTxt), S.chk j txt = true → CloOk S fns cons exs fs j txt) (hj : fns[j]? = some x) (hjb : j < mB) (hmg : mg x = some (.ref fa))
    (law : callF C fs k j [.d (.list (ns.map .int))] [] = some (.d (.bool true), []))
    (H : Hp) (hH : ∀ p ∈ mks, H p.2 = some (.tbl #[])) (only : ∀ b u, H b = some u → (b = a ∧ ∃ o ys, u = .frz o (.lst ys)) ∨ (b ∈ mks.map (·.2) ∧ u = .tbl #[])) (rd : LsX K H a (ns.map V.int)) (hz : ns.length ≤ sizeLine) (ok : HOk P w H s.heap) (apart : ∀ b u, H b = some u → K.lookup b = none) :
    codeAny (model P w) callerA (.call (.ref fa) ⟨[.ref a], []⟩) (fun r s' => r = .ok (.ret (.bool true)) ∧ OldK s.heap s'.heap ∧ s'.os = s.os ∧ AllBare s'.gens) s := by
  have isT : ∀ b : Addr, b ∈ mks.map (·.2) → s.heap.get? b = some { cls := .none, data := .fields #[] } := fun b hb => by
    obtain ⟨p, hp, e⟩ := List.mem_map.mp hb
    rw [← e]
    exact hT p hp
  have hid : ∀ {b : Addr} {o : Obj}, s.heap.get? b = some o → (∀ u, H b = some u → False) → (hidT s.heap H).get? b = some o := fun {b o} e n => hidT_get e (by
    cases q : H b with
    | none => rfl
    | some u => exact (n u q).elim)
  have noD : ∀ {b : Addr} {o : Obj}, s.heap.get? b = some o → (∀ vs n, o.data ≠ .seq vs n) → o.data ≠ .fields #[] → ∀ u, H b = some u → False := fun {b o} e h1 h2 u q => by
    rcases only b u q with ⟨rfl, _⟩ | ⟨hb, _⟩
    · rw [obj] at e; cases e; exact h1 _ _ rfl
    · rw [isT b hb] at e; cases e; exact h2 rfl
  have names : ∀ {b : Addr} {m : Str → Option Value}, s.heap.Ns b m → (hidT s.heap H).Ns b m := by
    rintro b m ⟨o, es, ep, e, d, r⟩
    exact ⟨o, es, ep, hid e (noD e (fun vs n z => by rw [d] at z; cases z) fun z => by rw [d] at z; cases z), d, r⟩
  have kin : K.In (hidT s.heap H) := fun b o e => hid (inK b o e) fun u q => by rw [apart b u q] at e; cases e
  have md : Mod K mg (hidT s.heap H) := by
    obtain ⟨mc, h1, h2⟩ := free
    exact ⟨kin, names main, ⟨mb, names bl, boot⟩, ⟨mc, names h1, h2⟩⟩
  have env : Env0 P w K mg (hidT s.heap H) callerA [] s H := {
    frames := rfl, mod := md, bs := fun b o e => of_hidT e, bsz := Nat.le_of_eq (hidT_size s.heap H), funs := trivial, frf := fun b hb => absurd (show b ∈ ([] : List Addr) from hb) (by simp), hok := ok, bare := .of_eq quiet }
  have TBs : ∀ p ∈ mks, TabB (hidT s.heap H) mg p.1 p.2 := fun p hp => by
    have hTp := hT p hp
    refine ⟨?_, ?_, fun z => ?_⟩
    · obtain ⟨o, us, file, tf, flags, tg, inF, text, tt, e1, r1, r2, r3, r4, r5, r6, r7, r8, hne⟩ := CH p hp
      refine ⟨o, us, file, tf, flags, tg, inF, text, tt, hid e1 (noD e1 (fun vs n z => ?_) fun z => ?_), r1, r2, r3, r4, r5, r6, r7, r8, hne⟩
      · rw [r2] at z
        cases z
      · rw [r2] at z
        cases z
        simp at r3
    · obtain ⟨bm, ob, b1, b2, b3, b4, b5, b6⟩ := hbm
      have nG : bm ≠ mainGlobals := fun q => by
        obtain ⟨o, es, ep, e, hd, _⟩ := main
        rw [q, e] at b3
        cases b3
        rw [hd] at b6
        cases b6
      have nP : bm ≠ p.2 := fun q => by
        rw [q, hTp] at b3
        cases b3
        cases b6
      refine ⟨bm, ob, b1, b2, nG, nP, hid b3 (noD b3 (fun vs n z => ?_) fun z => ?_), b4, b5, b6⟩
      · rw [b6] at z
        cases z
      · rw [b6] at z
        cases z
    · obtain ⟨o, es, ep, e, hd, _⟩ := main
      rw [z, hTp] at e
      cases e
      cases hd
  obtain ⟨f, hf, kp, run⟩ := (calls_ok (P := P) (w := w) (base := hidT s.heap H) (m0 := ⟨false, fun _ _ => x, x, fun _ _ => false, fun _ => []⟩) W TBs defs clos k).1 j x _ _ _ _ hj hjb law
  rw [hmg] at hf
  cases hf
  let G : Hp := fun b => if b ∈ mks.map (·.2) then none else H b
  have gle : Le G H := fun b o e => by
    by_cases q : b ∈ mks.map (·.2)
    · have : G b = none := if_pos q
      rw [this] at e; cases e
    · have : G b = H b := if_neg q
      rw [this] at e; exact e
  have ss : SS K S (fun _ => none) (fun _ => 0) G H [] := {
    sub := gle, cell := fun i ds e => by simp at e, out := fun i ds e => by simp at e, inj := fun i j ds es e => by simp at e, frm := fun b u e => (by cases e), frG := fun b u e => (by cases e), frM := fun i ds e => by simp at e
    tab := ⟨fun q hq => let ⟨p, hp, e⟩ := hS q hq; TabN.nil (by rw [e]; exact hH p hp), fun b ps e => by
      by_cases q : b ∈ mks.map (·.2)
      · have : G b = none := if_pos q
        rw [this] at e; cases e
      · rcases only b _ (gle b _ e) with ⟨_, o, ys, z⟩ | ⟨z, _⟩
        · cases z
        · exact q z, fun a o e => by cases e⟩ }
  have aT : a ∉ mks.map (·.2) := fun z => by
    have q := isT a z
    rw [obj] at q
    have z' : Data.seq vs.toArray _ = Data.fields #[] := congrArg Obj.data (Option.some.inj q)
    cases z'
  have rdG : LsX K G a (ns.map V.int) := by
    have e : G a = H a := if_neg aT
    rcases rd with (h | ⟨o, h⟩) | h
    · exact .inl (.inl (by rw [e]; exact h))
    · exact .inl (.inr ⟨o, by rw [e]; exact h⟩)
    · exact .inr h
  have arg : RV K S noO (fun _ => 0) G (.ref a) (.d (.list (ns.map .int))) := .d (.lst rdG (rpA_ints ns) (by rw [List.length_map]; exact hz))
  have r1 := run callerA [] s H [.ref a] [.ref a] (fun v _ => v = .bl true) (fun _ => none) (fun _ => 0) G room rfl env (.cons rfl .nil) ss (.cons arg .nil) fun v H' G' _ _ _ rv => by
    cases rv with
    | d h => cases h; rfl
  refine codeAny_mono r1 fun r s' h => ?_
  cases r with
  | error e => exact h.elim
  | ok fl =>
  cases fl with
  | ret u =>
    obtain ⟨v, H', os, bare, un, ok', rv, rfl⟩ := h
    have hu : u = Value.bool true := rv
    subst hu
    have key : ∀ b o, b ∉ mks.map (·.2) → s.heap.get? b = some o → s'.heap.get? b = some o := fun b o nb e => by
      cases q : H b with
      | none => exact un.keep b o e q (fun z => absurd (show b ∈ ([] : List Addr) from z) (by simp)) (by simp)
      | some u =>
        rcases only b u q with ⟨-, ob, ys, rfl⟩ | ⟨hb, _⟩
        · have old := (ok b _ q).1
          have now := (ok' b _ (un.frzs b ob _ q)).1
          rw [e] at old
          cases old
          exact now
        · exact absurd hb nb
    have grown : ∀ p ∈ mks, ∃ more : Array Value, s'.heap.get? p.2 = some { cls := .none, data := .fields more } := fun p hp => by
      obtain ⟨more, z⟩ := un.tbls p.2 #[] (hH p hp)
      exact ⟨_, ok' p.2 _ z⟩
    refine ⟨rfl, ⟨fun b o e => ?_, fun b o e => ?_⟩, os, bare⟩
    · by_cases hb : b ∈ mks.map (·.2)
      · obtain ⟨p, hp, ep⟩ := List.mem_map.mp hb
        obtain ⟨more, hm⟩ := grown p hp
        rw [← ep] at e ⊢
        rw [hT p hp] at e
        cases e
        exact .inr (.inl ⟨((CH p hp).tab (hT p hp)).isCodeTable, rfl, #[], more, rfl, by rw [Array.empty_append]; exact hm⟩)
      · exact .inl (key b o hb e)
    · by_cases hb : b ∈ mks.map (·.2)
      · obtain ⟨p, hp, ep⟩ := List.mem_map.mp hb
        obtain ⟨more, hm⟩ := grown p hp
        rw [← ep]
        exact ⟨_, hm⟩
      · exact ⟨o, key b o hb e⟩
  | next => exact h.elim
  | brk => exact h.elim
  | cont => exact h.elim
/-- what is told of a law's text in the heap behind the top -/
structure TextOk (K : PySem.W.Frag) (S : ST) (mks : List (Addr × Addr)) (mg : Str → Option Value) (fns cons exs : List Str) (C : Cons) (fs : List FD) (h : Heap) : Prop where
  W : World' K mg cons exs C
  defs : ∀ (j : Nat) (x : Str) (fd : FD), fns[j]? = some x → fs[j]? = some fd → DefOk K S mks mg fns cons exs x fd
  clos : ∀ (j : Nat) (txt : CTxt), S.chk j txt = true → CloOk S fns cons exs fs j txt
  hT : ∀ p ∈ mks, h.get? p.2 = some { cls := .none, data := .fields #[] }
  nT : ∀ p ∈ mks, K.lookup p.2 = none
  CH : ∀ p ∈ mks, PySem.W.CodeHd h p.1 p.2
  hS : ∀ q ∈ S.tabs, ∃ p ∈ mks, q.1 = p.2
/-- the goal that the head leaves, from the law's meaning -/
theorem law_walk {l : PySem.W.OpenLaw} {n : Nat} {q : Program} {loose : List Str} {XP : (Str → Option Value) → Heap → Prop} {YP : World → Heap → Prop} {d : DefRec} {K : Params → PySem.W.Frag} {fns cons exs : List Str} {C : Cons} {fs : List FD} {j : Nat} {k : Nat}
    (hn : l.most = some n) (hn2 : n ≤ sizeLine) (hdf : d.params.defaults = []) (hr : Room k callerA) (hY : ∀ (w : World) (h : Heap), YP w h → (K w.params).In h) (hj : fns[j]? = some d.name) (hjb : j < mB)
    (defs : ∀ (w : World) (mg : Str → Option Value) (h : Heap), (K w.params).In h → h.Ns mainGlobals mg → YP w h → ∃ (S : ST) (mks : List (Addr × Addr)), TextOk (K w.params) S mks mg fns cons exs C fs h)
    (law : ∀ ns : List Int, ns.length ≤ n → (∀ z ∈ ns, Builtin.Int.intBits z ≤ 1048576) → callF C fs k j [.d (.list (ns.map .int))] [] = some (.d (.bool true), [])) :
    PySem.W.WalkO q loose XP YP l.row.toRowW d [] (fun f vs => PySem.call f vs) := by
  refine Att.attach_callB hn hdf fun w s₀ s₁ mg mb fa o pm cd doc a vs ns G Y ho hd hcd hmg hobj hints hlen hbits hg => ?_
  have inK := hY w _ Y
  obtain ⟨S, mks, t⟩ := defs w mg _ inK G.T.g Y
  have hz : ns.length ≤ sizeLine := Nat.le_trans hlen hn2
  have go := law_at (S := S) (P := l.prog) (w := w) (k := k) (x := d.name) inK G.T.g G.T.b G.T.builtins G.T.nolimit hg t.hT t.nT t.CH t.hS G.T.bmain hobj hints hr t.W t.defs t.clos hj hjb hmg (law ns hlen hbits)
  have rvs := vals_int hints
  have isT : ∀ b : Addr, b ∈ mks.map (·.2) → s₁.heap.get? b = some { cls := .none, data := .fields #[] } := fun b hb => by
    obtain ⟨p, hp, e⟩ := List.mem_map.mp hb
    rw [← e]
    exact t.hT p hp
  have nT : ∀ b : Addr, b ∈ mks.map (·.2) → (K w.params).lookup b = none := fun b hb => by
    obtain ⟨p, hp, e⟩ := List.mem_map.mp hb
    rw [← e]
    exact t.nT p hp
  have memT : ∀ p ∈ mks, p.2 ∈ mks.map (·.2) := fun p hp => List.mem_map.mpr ⟨p, hp, rfl⟩
  have aT : a ∉ mks.map (·.2) := fun z => by
    have q := isT a z
    rw [hobj] at q
    have z' : Data.seq vs.toArray _ = Data.fields #[] := congrArg Obj.data (Option.some.inj q)
    cases z'
  cases hk : (K w.params).lookup a with
  | some o =>
    have e := inK a o hk
    rw [hobj] at e
    cases e
    have key : ∀ b u, (if b ∈ mks.map (·.2) then some (HO.tbl #[]) else none) = some u → b ∈ mks.map (·.2) ∧ u = .tbl #[] := fun b u z => by
      by_cases hb : b ∈ mks.map (·.2)
      · rw [if_pos hb] at z; cases z; exact ⟨hb, rfl⟩
      · rw [if_neg hb] at z; cases z
    refine go (fun b => if b ∈ mks.map (·.2) then some (.tbl #[]) else none) (fun p hp => if_pos (memT p hp)) (fun b u z => .inr (key b u z)) (.inr ⟨vs.toArray, _, hk, ?_, by simpa using rvs⟩) hz (fun b u z => ?_) fun b u z => nT b (key b u z).1
    · rw [List.size_toArray, hints.length]
      exact hz
    · obtain ⟨h1, rfl⟩ := key b u z
      exact isT b h1
  | none =>
    have key : ∀ b u, (if b = a then some (HO.frz { cls := .type "list", data := .seq vs.toArray } (.lst (ns.map V.int))) else if b ∈ mks.map (·.2) then some (HO.tbl #[]) else none) = some u →
        (b = a ∧ u = .frz { cls := .type "list", data := .seq vs.toArray } (.lst (ns.map V.int))) ∨ (b ∈ mks.map (·.2) ∧ u = .tbl #[]) := fun b u z => by
      by_cases hb : b = a
      · rw [if_pos hb] at z
        cases z
        exact .inl ⟨hb, rfl⟩
      · rw [if_neg hb] at z
        by_cases hc : b ∈ mks.map (·.2)
        · rw [if_pos hc] at z; cases z; exact .inr ⟨hc, rfl⟩
        · rw [if_neg hc] at z; cases z
    refine go (fun b => if b = a then some (.frz { cls := .type "list", data := .seq vs.toArray } (.lst (ns.map V.int))) else if b ∈ mks.map (·.2) then some (.tbl #[]) else none)
      (fun p hp => (if_neg (show ¬ p.2 = a from fun z => aT (by rw [← z]; exact memT p hp))).trans (if_pos (memT p hp))) (fun b u z => ?_) (.inl (.inr ⟨{ cls := .type "list", data := .seq vs.toArray }, if_pos rfl⟩)) hz (fun b u z => ?_) fun b u z => ?_
    · rcases key b u z with ⟨h1, rfl⟩ | h1
      · exact .inl ⟨h1, _, _, rfl⟩
      · exact .inr h1
    · rcases key b u z with ⟨rfl, rfl⟩ | ⟨h1, rfl⟩
      · exact ⟨hobj, by rw [List.length_map]; exact hz, vs, _, rvs, hobj⟩
      · exact isT b h1
    · rcases key b u z with ⟨rfl, -⟩ | ⟨h1, -⟩
      · exact hk
      · exact nT b h1
end Mu

namespace Mu
open PySem PySem.Spec PyProof.Rows L2 LamX NdefX

/-! ### the text of made functions -/
theorem bind1 {cf : CF} {doc pm ctv : Value} {a : Arg} {us : List Value} (hp : cf.txt.params = ⟨[], [a], none, [], [], none, []⟩) (hl : us.length = 1) : bindArgs (cf.fd doc pm ctv) ⟨us, []⟩ = pure ([a.arg].zip us) := by
  match us, hl with
  | [u], _ =>
    unfold bindArgs
    simp only [hp]
    simp [seqItems?]
    rfl
theorem bind2 {cf : CF} {doc pm ctv : Value} {a b : Arg} {us : List Value} (hp : cf.txt.params = ⟨[], [a, b], none, [], [], none, []⟩) (hab : (b.arg == a.arg) = false) (hl : us.length = 2) : bindArgs (cf.fd doc pm ctv) ⟨us, []⟩ = pure ([a.arg, b.arg].zip us) := by
  match us, hl with
  | [u, v], _ =>
    unfold bindArgs
    simp only [hp]
    simp [seqItems?, List.lookup, hab]
    rfl
/-- one made function: its number, its meaning, its names -/
structure CloD where
  j : Nat
  fd : FD
  N : List Str
  ps : List Str
  fr : List Str
def frT (cls : List CloD) (j : Nat) : List Str := match cls.find? (fun d => d.j == j) with
  | some d => d.fr
  | none => []
def noMk (cls : List CloD) : MkI := ⟨false, fun _ _ => "", "", fun _ _ => false, frT cls⟩
def psB : List Str → Arguments → Bool
  | [x], ⟨[], [a], none, [], [], none, []⟩ => decide (a.arg = x)
  | [x, y], ⟨[], [a, b], none, [], [], none, []⟩ => decide (a.arg = x) && decide (b.arg = y) && !(y == x)
  | _, _ => false
def ckClo (fns cons exs : List Str) (cls : List CloD) (d : CloD) (t : CTxt) : Bool := nscB d.N d.ps d.fr t.scope && psB d.ps t.params && match t.body with
  | .stmts b => ckSs ⟨d.N, fns, cons, exs, noMk cls⟩ t.scope d.fd.body b
  | .expr e => match d.fd.body with
    | [.ret me] => ckE ⟨d.N, fns, cons, exs, noMk cls⟩ t.scope me e
    | _ => false
def chkT (fns cons exs : List Str) (cls : List CloD) (j : Nat) (t : CTxt) : Bool := match cls.find? (fun d => d.j == j) with
  | some d => ckClo fns cons exs cls d t
  | none => false
def mkI (fns cons exs : List Str) (cls : List CloD) (q : String) (nm : Nat → Nat → Str) : MkI := ⟨true, nm, q, chkT fns cons exs cls, frT cls⟩
/-- the names of code objects, by their places -/
def nmOf : List (Nat × Nat × String) → Nat → Nat → Str
  | [], _, _ => ""
  | (l, c, x) :: r, l', c' => if l = l' ∧ c = c' then (x : Str) else nmOf r l' c'
/-- the numbers, the lengths -/
def cloB (fs : List FD) (d : CloD) : Bool := decide (d.j < mB) && decide (d.fd.ps = d.ps.length + d.fr.length) && decide (d.N.length = d.fd.n)
theorem clos_ok {S : ST} {fns cons exs : List Str} {cls : List CloD} {fs : List FD} (hc : S.chk = chkT fns cons exs cls) (hf : S.fr = frT cls) (hb : cls.all (cloB fs) = true) (hj : ∀ d ∈ cls, fs[d.j]? = some d.fd) (j : Nat) (txt : CTxt) (h : S.chk j txt = true) : CloOk S fns cons exs fs j txt := by
  rw [hc] at h
  unfold chkT at h
  cases q : cls.find? (fun d => d.j == j) with
  | none => rw [q] at h; cases h
  | some d =>
    rw [q] at h
    have hd : d ∈ cls := List.mem_of_find?_eq_some q
    have ej : d.j = j := by have := List.find?_some q; simpa using this
    have efr : S.fr j = d.fr := by rw [hf]; unfold frT; rw [q]
    have b0 := List.all_eq_true.mp hb d hd
    simp only [cloB, Bool.and_eq_true, decide_eq_true_eq] at b0
    simp only [ckClo, Bool.and_eq_true] at h
    obtain ⟨⟨h1, h2⟩, h3⟩ := h
    refine ⟨d.fd, d.N, d.ps, noMk cls, by rw [← ej]; exact hj d hd, by rw [← ej]; exact b0.1.1, by rw [efr]; exact nscope_by h1, by rw [efr]; exact b0.1.2, b0.2, rfl, fun j t z => absurd (show false = true from z) (by decide), fun j => by rw [hf]; rfl, fun cf doc pm ctv us et hl => ?_, ?_⟩
    · obtain ⟨jd, fd, N, ps, fr⟩ := d
      subst et
      dsimp only at h2 hl
      unfold psB at h2
      split at h2
      · rename_i x a e
        simp only [decide_eq_true_eq] at h2
        subst h2
        exact bind1 e hl
      · rename_i x y a b e
        simp only [Bool.and_eq_true, decide_eq_true_eq, Bool.not_eq_true'] at h2
        obtain ⟨⟨rfl, rfl⟩, h5⟩ := h2
        exact bind2 e h5 hl
      · cases h2
    · cases hbd : txt.body with
      | stmts b => rw [hbd] at h3; exact h3
      | expr e =>
        rw [hbd] at h3
        dsimp only at h3 ⊢
        split at h3
        · rename_i me e2
          exact ⟨me, e2, h3⟩
        · cases h3

/-! ### from what the top has written to the facts of the defs -/
theorem dk_mk {S : ST} {mks : List (Addr × Addr)} {cls : List CloD} {K : PySem.W.Frag} {h : Heap} {mg : Str → Option Value} {fns cons exs : List Str} {x y : Str} {st : Stmt} {N ps : List Str} {fd : FD} (hf : S.fr = frT cls) (X : K.In h) (G : h.Ns mainGlobals mg)
    (sc : FnScope N ps (defScope st)) (ck : ckSs ⟨N, fns, cons, exs, noMk cls⟩ (defScope st) fd.body (defBody st) = true) (hp : ps.length = fd.ps) (hn : N.length = fd.n)
    (bind : ∀ (kV doc pm : Value) (an : Option Addr) (cdv ct : Value) (us : List Value), us.length = ps.length → bindArgs (PySem.W.fnOf y y (defArgs st) (defBody st) (defScope st) .none kV doc pm an cdv ct) ⟨us, []⟩ = pure (ps.zip us))
    {f : Addr} {od an : Option Addr} {sl : Array (Option Value)} {oc kV dc pm cd ct : Value} (a : PySem.W.nsIn K mainGlobals x = some (some (.ref f)))
    (l : K.lookup f = some ⟨oc, od, .func (PySem.W.fnOf y y (defArgs st) (defBody st) (defScope st) .none kV dc pm an cd ct), sl⟩) (c : PySem.W.codeIn K cd y = true) (k : PySem.W.keepIn K (.ref f) = true) : DefOk K S mks mg fns cons exs x fd :=
  have F := fun_mk (st := st) l c k
  ⟨y, N, ps, st, f, _, noMk cls, PySem.W.mg_of X G a, F, sc, F.binds bind, ck, hp, hn, fun j t z => absurd (show false = true from z) (by decide), fun j => by rw [hf]; rfl, fun z => absurd (show false = true from z) (by decide)⟩
/-- a def that makes functions -/
theorem dk_mkT {S : ST} {mks : List (Addr × Addr)} {cls : List CloD} {K : PySem.W.Frag} {h : Heap} {mg : Str → Option Value} {fns cons exs : List Str} {x y : Str} {st : Stmt} {N ps : List Str} {fd : FD} {m : MkI} (hf : S.fr = frT cls) (hc : S.chk = chkT fns cons exs cls) (X : K.In h) (G : h.Ns mainGlobals mg)
    (mc : m.chk = chkT fns cons exs cls) (mf : m.fr = frT cls) (mq : m.q = y ++ (".<locals>." : Str))
    (sc : FnScope N ps (defScope st)) (ck : ckSs ⟨N, fns, cons, exs, m⟩ (defScope st) fd.body (defBody st) = true) (hp : ps.length = fd.ps) (hn : N.length = fd.n)
    (bind : ∀ (kV doc pm : Value) (an : Option Addr) (cdv ct : Value) (us : List Value), us.length = ps.length → bindArgs (PySem.W.fnOf y y (defArgs st) (defBody st) (defScope st) .none kV doc pm an cdv ct) ⟨us, []⟩ = pure (ps.zip us))
    {f cc P : Addr} {od an : Option Addr} {sl : Array (Option Value)} {oc kV dc pm ct : Value} (a : PySem.W.nsIn K mainGlobals x = some (some (.ref f)))
    (l : K.lookup f = some ⟨oc, od, .func (PySem.W.fnOf y y (defArgs st) (defBody st) (defScope st) .none kV dc pm an (.ref cc) ct), sl⟩) (c : PySem.W.codeIn K (.ref cc) y = true) (k : PySem.W.keepIn K (.ref f) = true)
    (hm : (cc, P) ∈ mks) (ht : (P, m.nm) ∈ S.tabs) (hu : ∀ p ∈ S.tabs, p.1 = P → p.2 = m.nm) : DefOk K S mks mg fns cons exs x fd :=
  have F := fun_mk (st := st) l c k
  ⟨y, N, ps, st, f, _, m, PySem.W.mg_of X G a, F, sc, F.binds bind, ck, hp, hn, fun j t z => by rw [hc]; rw [mc] at z; exact z, fun j => by rw [hf, mf], fun _ => ⟨mq, cc, P, rfl, hm, ht, hu⟩⟩
def AllOk (K : PySem.W.Frag) (S : ST) (mks : List (Addr × Addr)) (mg : Str → Option Value) (fns cons exs : List Str) : List Str → List FD → Prop
  | x :: xs, d :: ds => DefOk K S mks mg fns cons exs x d ∧ AllOk K S mks mg fns cons exs xs ds
  | _, _ => True
theorem AllOk.get {K : PySem.W.Frag} {S : ST} {mks : List (Addr × Addr)} {mg : Str → Option Value} {fns cons exs : List Str} : ∀ {xs : List Str} {ds : List FD}, AllOk K S mks mg fns cons exs xs ds → ∀ (j : Nat) (x : Str) (fd : FD), xs[j]? = some x → ds[j]? = some fd → DefOk K S mks mg fns cons exs x fd
  | [], _, _, _, _, _, e, _ => by simp at e
  | _ :: _, [], _, _, _, _, _, e => by simp at e
  | x :: xs, d :: ds, h, 0, _, _, e1, e2 => by
    simp at e1 e2
    subst e1 e2
    exact h.1
  | x :: xs, d :: ds, h, j + 1, _, _, e1, e2 => AllOk.get h.2 j _ _ (by simpa using e1) (by simpa using e2)
/-- the table of a code object that the top has written -/
def tabAt (K : PySem.W.Frag) (c : Addr) : Addr := match K.lookup c with
  | some ⟨_, _, .fields vs, _⟩ => (match (vs[11]? : Option Value) with
    | some (.ref P) => P
    | _ => 0)
  | _ => 0
/-- the tables: their code objects, told of the heap behind the top -/
structure MkOk (K : PySem.W.Frag) (h : Heap) (ts : List Addr) (cs : List Addr) : Prop where
  hd : ∀ c ∈ cs, PySem.W.codeHdIn K c (tabAt K c) = true
  no : ∀ c ∈ cs, K.lookup (tabAt K c) = none
  mem : ∀ c ∈ cs, ts.contains (tabAt K c) = true
  emp : ∀ P ∈ ts, h.get? P = some { cls := .none, data := .fields #[] }
def mksOf (K : PySem.W.Frag) (cs : List Addr) : List (Addr × Addr) := cs.map fun c => (c, tabAt K c)
def tabsOf (K : PySem.W.Frag) (cs : List (Addr × (Nat → Nat → Str))) : List NTab := cs.map fun c => (tabAt K c.1, c.2)
def allB (K : PySem.W.Frag) (ts cs : List Addr) : Bool := cs.all (fun c => PySem.W.codeHdIn K c (tabAt K c) && (K.lookup (tabAt K c)).isNone && ts.contains (tabAt K c)) && decide ((cs.map (tabAt K)).Nodup)
theorem mk_ok {K : PySem.W.Frag} {h : Heap} {ts cs : List Addr} (b : allB K ts cs = true) (e : ∀ P ∈ ts, h.get? P = some { cls := .none, data := .fields #[] }) : MkOk K h ts cs ∧ (cs.map (tabAt K)).Nodup := by
  simp only [allB, Bool.and_eq_true, List.all_eq_true, decide_eq_true_eq, Option.isNone_iff_eq_none] at b
  exact ⟨⟨fun c hc => (b.1 c hc).1.1, fun c hc => (b.1 c hc).1.2, fun c hc => (b.1 c hc).2, e⟩, b.2⟩
theorem text_ok {K : PySem.W.Frag} {h : Heap} {mg : Str → Option Value} {fns cons exs : List Str} {C : Cons} {fs : List FD} {cls : List CloD} {ts : List Addr} {mk : List (Addr × (Nat → Nat → Str))} (X : K.In h) (W : World' K mg cons exs C) (b : allB K ts (mk.map (·.1)) = true) (e : ∀ P ∈ ts, h.get? P = some { cls := .none, data := .fields #[] })
    (cb : cls.all (cloB fs) = true) (cj : ∀ d ∈ cls, fs[d.j]? = some d.fd)
    (defs : ∀ (j : Nat) (x : Str) (fd : FD), fns[j]? = some x → fs[j]? = some fd → DefOk K ⟨tabsOf K mk, chkT fns cons exs cls, frT cls⟩ (mksOf K (mk.map (·.1))) mg fns cons exs x fd) :
    ∃ (S : ST) (mks : List (Addr × Addr)), TextOk K S mks mg fns cons exs C fs h := by
  obtain ⟨m, nd⟩ := mk_ok b e
  have at_ : ∀ p ∈ mksOf K (mk.map (·.1)), ∃ c ∈ mk.map (·.1), p = (c, tabAt K c) := fun p hp => by
    obtain ⟨c, hc, e⟩ := List.mem_map.mp hp
    exact ⟨c, hc, e.symm⟩
  refine ⟨⟨tabsOf K mk, chkT fns cons exs cls, frT cls⟩, mksOf K (mk.map (·.1)), ⟨W, defs, clos_ok rfl rfl cb cj, fun p hp => ?_, fun p hp => ?_, fun p hp => ?_, fun q hq => ?_⟩⟩
  · obtain ⟨c, hc, rfl⟩ := at_ p hp
    exact m.emp _ (by simpa using m.mem c hc)
  · obtain ⟨c, hc, rfl⟩ := at_ p hp
    exact m.no c hc
  · obtain ⟨c, hc, rfl⟩ := at_ p hp
    exact PySem.W.codeHd_of_K X (m.hd c hc)
  · obtain ⟨c, hc, rfl⟩ := List.mem_map.mp hq
    exact ⟨(c.1, tabAt K c.1), List.mem_map.mpr ⟨c.1, List.mem_map.mpr ⟨c, hc, rfl⟩, rfl⟩, rfl⟩
/-- a maker among the makers -/
theorem mk_mem {K : PySem.W.Frag} {mk : List (Addr × (Nat → Nat → Str))} {c : Addr} {nm : Nat → Nat → Str} (h : (c, nm) ∈ mk) : (c, tabAt K c) ∈ mksOf K (mk.map (·.1)) ∧ (tabAt K c, nm) ∈ tabsOf K mk :=
  ⟨List.mem_map.mpr ⟨c, List.mem_map.mpr ⟨_, h, rfl⟩, rfl⟩, List.mem_map.mpr ⟨_, h, rfl⟩⟩
theorem mk_one {K : PySem.W.Frag} {ts : List Addr} {mk : List (Addr × (Nat → Nat → Str))} {c : Addr} {nm : Nat → Nat → Str} (h : (c, nm) ∈ mk) (b : allB K ts (mk.map (·.1)) = true) : ∀ p ∈ tabsOf K mk, p.1 = tabAt K c → p.2 = nm := fun p hp e => by
  simp only [allB, Bool.and_eq_true, decide_eq_true_eq] at b
  have nd := b.2
  clear b
  obtain ⟨⟨c', nm'⟩, hc', rfl⟩ := List.mem_map.mp hp
  dsimp only at e ⊢
  induction mk with
  | nil => cases h
  | cons x r ih =>
    rw [List.map_cons, List.map_cons, List.nodup_cons] at nd
    have inr : ∀ {d : Addr} {n : Nat → Nat → Str}, (d, n) ∈ r → tabAt K d ∈ (r.map (·.1)).map (tabAt K) := fun {d n} h => List.mem_map.mpr ⟨d, List.mem_map.mpr ⟨_, h, rfl⟩, rfl⟩
    rcases List.mem_cons.mp h with rfl | h1 <;> rcases List.mem_cons.mp hc' with h2 | h2
    · cases h2; rfl
    · exact absurd (by rw [← e]; exact inr h2) nd.1
    · cases h2
      exact absurd (by rw [e]; exact inr h1) nd.1
    · exact ih h1 nd.2 h2 (List.mem_map.mpr ⟨_, h2, rfl⟩)
/-- a constant of the text -/
def ConOk (K : PySem.W.Frag) (mg : Str → Option Value) (x : Str) (d : D) : Prop := ∃ u v, mg x = some u ∧ RelV v u ∧ Rp K (fun _ => none) v d
def AllCon (K : PySem.W.Frag) (mg : Str → Option Value) : List Str → List D → Prop
  | x :: xs, d :: ds => ConOk K mg x d ∧ AllCon K mg xs ds
  | _, _ => True
theorem AllCon.get {K : PySem.W.Frag} {mg : Str → Option Value} : ∀ {xs : List Str} {ds : List D}, AllCon K mg xs ds → ∀ (j : Nat) (x : Str) (d : D), xs[j]? = some x → ds[j]? = some d → ConOk K mg x d
  | [], _, _, _, _, _, e, _ => by simp at e
  | _ :: _, [], _, _, _, _, _, e => by simp at e
  | x :: xs, d :: ds, h, 0, _, _, e1, e2 => by
    simp at e1 e2
    subst e1 e2
    exact h.1
  | x :: xs, d :: ds, h, j + 1, _, _, e1, e2 => AllCon.get h.2 j _ _ (by simpa using e1) (by simpa using e2)
/-- a value that the top has written, as data -/
def CV (K : PySem.W.Frag) (u : Value) (d : D) : Prop := ∃ v, RelV v u ∧ Rp K (fun _ => none) v d
theorem cv_int (K : PySem.W.Frag) (i : Int) (t : Nat) : CV K (.int i t) (.int i) := ⟨.int i, ⟨t, rfl⟩, .int i⟩
theorem cv_str (K : PySem.W.Frag) (x : Str) (t : Nat) : CV K (.str x t) (.str x) := ⟨.str x, ⟨t, rfl⟩, .str x⟩
theorem cv_bool (K : PySem.W.Frag) (b : Bool) : CV K (.bool b) (.bool b) := ⟨.bl b, rfl, .bl b⟩
theorem cv_none (K : PySem.W.Frag) : CV K .none .none := ⟨.non, rfl, .non⟩
inductive CVs (K : PySem.W.Frag) : List Value → List D → Prop where
  | nil : CVs K [] []
  | cons {u : Value} {d : D} {us : List Value} {ds : List D} (h : CV K u d) (t : CVs K us ds) : CVs K (u :: us) (d :: ds)
theorem cvs_all {K : PySem.W.Frag} : ∀ {us : List Value} {ds : List D}, CVs K us ds → ∃ vs, Vals vs us ∧ RpA K (fun _ => none) vs ds
  | _, _, .nil => ⟨[], .nil, .nil⟩
  | _, _, .cons ⟨v, h1, h2⟩ t =>
    let ⟨vs, t1, t2⟩ := cvs_all t
    ⟨v :: vs, .cons h1 t1, .cons h2 t2⟩
theorem cv_tup {K : PySem.W.Frag} {a : Addr} {od : Option Addr} {its : Array Value} {n : Nat} {sl : Array (Option Value)} {ds : List D} (l : K.lookup a = some ⟨.type "tuple", od, .seq its n, sl⟩) (h : CVs K its.toList ds) (z : ds.length ≤ sizeLine) : CV K (.ref a) (.tuple ds) := by
  obtain ⟨vs, h1, h2⟩ := cvs_all h
  have e : its.size = ds.length := by
    have q1 := h1.length
    have q2 := h2.length
    simp at q1
    omega
  exact ⟨.ref a, rfl, .tup (.inr ⟨_, its, n, l, rfl, rfl, by omega, h1⟩) h2 z⟩
theorem con_mk {K : PySem.W.Frag} {h : Heap} {mg : Str → Option Value} {x : Str} {u : Value} {d : D} (X : K.In h) (G : h.Ns mainGlobals mg) (a : PySem.W.nsIn K mainGlobals x = some (some u)) (c : CV K u d) : ConOk K mg x d :=
  let ⟨v, h1, h2⟩ := c
  ⟨u, v, PySem.W.mg_of X G a, h1, h2⟩
/-- names that the text leaves as they are -/
def AllNo (K : PySem.W.Frag) : List String → Prop
  | [] => True
  | x :: xs => PySem.W.nsIn K mainGlobals (x : Str) = some none ∧ AllNo K xs
theorem AllNo.get {K : PySem.W.Frag} : ∀ {xs : List String}, AllNo K xs → ∀ x ∈ xs, PySem.W.nsIn K mainGlobals (x : Str) = some none
  | [], _, _, h => by simp at h
  | y :: ys, a, x, h => by
    rcases List.mem_cons.mp h with e | e
    · rw [e]; exact a.1
    · exact AllNo.get a.2 x e
theorem blt_mk {K : PySem.W.Frag} {h : Heap} {mg : Str → Option Value} (X : K.In h) (G : h.Ns mainGlobals mg) (z : AllNo K bltNames) : ∀ x ∈ bltNames, mg (x : Str) = none :=
  fun x hx => PySem.W.mg_none_of X G (z.get x hx)
/-- the own classes of exceptions -/
def AllEx (K : PySem.W.Frag) (mg : Str → Option Value) : List Str → Prop
  | [] => True
  | x :: xs => ExOk K mg x ∧ AllEx K mg xs
theorem AllEx.get {K : PySem.W.Frag} {mg : Str → Option Value} : ∀ {xs : List Str}, AllEx K mg xs → ∀ (j : Nat) (x : Str), xs[j]? = some x → ExOk K mg x
  | [], _, _, _, e => by simp at e
  | y :: ys, h, 0, _, e => by simp at e; subst e; exact h.1
  | y :: ys, h, j + 1, _, e => AllEx.get h.2 j _ (by simpa using e)
theorem ex_mk {K : PySem.W.Frag} {h : Heap} {mg : Str → Option Value} {x : Str} {C : Addr} (X : K.In h) (G : h.Ns mainGlobals mg) (a : PySem.W.nsIn K mainGlobals x = some (some (.ref C))) (b : PySem.W.excIn K C [.type "ValueError", .type "Exception", .type "BaseException", .type "object"] "ValueError.__new__" = true)
    (c : PySem.W.keepIn K (.ref C) = true) (d : PySem.W.subIn K (.ref C) (.type "BaseException") = some true) (e : PySem.W.typeIn K (.ref C) = some (.type "type")) (f : PySem.W.hasDictIn K C = true) (g : PySem.W.subIn K (.ref C) (.ref C) = some true) : ExOk K mg x :=
  ⟨C, PySem.W.mg_of X G a, b, c, d, e, f, g⟩
end Mu

/-! meanings, step by step -/
namespace Mu
open PySem
variable {C : Cons} {F : Calls} {ρ : Rho} {μ : Store}

section
variable (C : Cons) (F : Calls) (ρ : Rho) (μ : Store)
@[simp] theorem evE_var (i : Nat) : evE C F (.var i) ρ μ = match ρ[i]? with | some (some v) => some (v, μ) | _ => none := by
  first
    | (simp only [evE]; rfl)
    | simp only [evE]
@[simp] theorem evE_non : evE C F .non ρ μ = some (.d .none, μ) := by simp only [evE]
@[simp] theorem evE_bl (b : Bool) : evE C F (.bl b) ρ μ = some (.d (.bool b), μ) := by simp only [evE]
@[simp] theorem evE_int (i : Int) : evE C F (.int i) ρ μ = some (.d (.int i), μ) := by simp only [evE]
@[simp] theorem evE_str (s : String) : evE C F (.str s) ρ μ = some (.d (.str s), μ) := by simp only [evE]
@[simp] theorem evE_con (x : String) (n : Nat) : evE C F (.con x n) ρ μ = (C n).map fun x => (.d x, μ) := by simp only [evE]
@[simp] theorem evE_tup (es : Es) : evE C F (.tup es) ρ μ = (evEs C F es ρ μ).bind fun r => some (.d (.tuple r.1), r.2) := by simp only [evE]
@[simp] theorem evE_lst (es : Es) : evE C F (.lst es) ρ μ = (evEs C F es ρ μ).bind fun r => some (.d (.list r.1), r.2) := by simp only [evE]
@[simp] theorem evE_dct (n : Nat) : evE C F (.dct n) ρ μ = some (.d (.dict []), μ) := by simp only [evE]
@[simp] theorem evE_rep (es : Es) (k : E) : evE C F (.rep es k) ρ μ = (evEs C F es ρ μ).bind fun r => (toI (evE C F k ρ r.2)).bind fun q => if -(2 ^ 63) ≤ q.1 ∧ q.1 < 2 ^ 63 ∧ r.1.length * q.1.toNat ≤ sizeLine then some (.d (.list (List.flatten (List.replicate q.1.toNat r.1))), q.2) else none := by simp only [evE]
@[simp] theorem evE_bop (o : BOp) (a b : E) : evE C F (.bop o a b) ρ μ = (evE C F a ρ μ).bind fun r => (evE C F b ρ r.2).bind fun q => rd2 q.2 r.1 q.1 (bopD o) := by simp only [evE]
@[simp] theorem evE_neg (a : E) : evE C F (.neg a) ρ μ = (toI (evE C F a ρ μ)).bind fun r => some (.d (.int (-r.1)), r.2) := by simp only [evE]
@[simp] theorem evE_inot (a : E) : evE C F (.inot a) ρ μ = (toT (evE C F a ρ μ)).bind fun r => some (.d (.bool (!r.1)), r.2) := by simp only [evE]
@[simp] theorem evE_cmp (o : COp) (a b : E) : evE C F (.cmp o a b) ρ μ = (evE C F a ρ μ).bind fun r => (evE C F b ρ r.2).bind fun q => rd2 q.2 r.1 q.1 (cmpD o) := by simp only [evE]
@[simp] theorem evE_chn (o p : COp) (a b c : E) : evE C F (.chn o p a b c) ρ μ = (evE C F a ρ μ).bind fun r => (evE C F b ρ r.2).bind fun q => (toB (rd2 q.2 r.1 q.1 (cmpD o))).bind fun t => if t.1 = true then (evE C F c ρ t.2).bind fun u => rd2 u.2 q.1 u.1 (cmpD p) else some (.d (.bool false), t.2) := by simp only [evE]
@[simp] theorem evE_isN (a : E) : evE C F (.isN a) ρ μ = (evE C F a ρ μ).bind fun r => some (.d (.bool (noneV r.1)), r.2) := by simp only [evE]
@[simp] theorem evE_notN (a : E) : evE C F (.notN a) ρ μ = (evE C F a ρ μ).bind fun r => some (.d (.bool (!noneV r.1)), r.2) := by simp only [evE]
@[simp] theorem evE_isT (k n : Bool) (a : E) : evE C F (.isT k n a) ρ μ = (toB (evE C F a ρ μ)).bind fun r => some (.d (.bool (n ^^ decide (r.1 = k))), r.2) := by simp only [evE]
@[simp] theorem evE_band (es : Es) : evE C F (.band es) ρ μ = (evAnd C F es ρ μ).map fun r => (.d (.bool r.1), r.2) := by simp only [evE]
@[simp] theorem evE_bor (es : Es) : evE C F (.bor es) ρ μ = (evOr C F es ρ μ).map fun r => (.d (.bool r.1), r.2) := by simp only [evE]
@[simp] theorem evE_ite (c a b : E) : evE C F (.ite c a b) ρ μ = (toT (evE C F c ρ μ)).bind fun r => if r.1 = true then evE C F a ρ r.2 else evE C F b ρ r.2 := by simp only [evE]
@[simp] theorem evE_idx (a i : E) : evE C F (.idx a i) ρ μ = (evE C F a ρ μ).bind fun r => (evE C F i ρ r.2).bind fun q => rd2 q.2 r.1 q.1 idxD := by simp only [evE]
@[simp] theorem evE_sli (a : E) (lo hi : Oe) : evE C F (.sli a lo hi) ρ μ = (evE C F a ρ μ).bind fun r => (evO C F lo ρ r.2).bind fun q => (evO C F hi ρ q.2).bind fun u => rd1 u.2 r.1 fun x => sliD x q.1 u.1 := by simp only [evE]
@[simp] theorem evE_isi (a : E) (c : Cls) : evE C F (.isi a c) ρ μ = (evE C F a ρ μ).bind fun r => rd1 r.2 r.1 fun x => some (.bool (isiD x c)) := by simp only [evE]
@[simp] theorem evE_call (f : Nat) (es : Es) : evE C F (.call f es) ρ μ = (evVs C F es ρ μ).bind fun r => F f r.1 r.2 := by simp only [evE]
@[simp] theorem evE_callM (f : Nat) (es : Es) : evE C F (.callM f es) ρ μ = (evVs C F es ρ μ).bind fun r => newL (F (mB + f) r.1 r.2) := by simp only [evE]
/-- a call of what a name holds -/
def goV (F : Calls) (vs : List Val) (μ : Store) : Option (Option Val) → Option (Val × Store)
  | some (some (.c j env)) => if vs.all plainV = true then F j (vs ++ env) μ else none
  | _ => none
@[simp] theorem goV_c (vs : List Val) (j : Nat) (env : List Val) : goV F vs μ (some (some (.c j env))) = if vs.all plainV = true then F j (vs ++ env) μ else none := rfl
@[simp] theorem evE_callV (i : Nat) (es : Es) : evE C F (.callV i es) ρ μ = (evVs C F es ρ μ).bind fun r => goV F r.1 r.2 ρ[i]? := by
  simp only [evE]
  congr 1
@[simp] theorem evE_callC (f : Nat) (es : Es) : evE C F (.callC f es) ρ μ = (evVs C F es ρ μ).bind fun r => (cloVs ρ r.1).bind fun ws => (F f ws r.2).bind fun q => if plainV q.1 = true then some q else none := by simp only [evE]
@[simp] theorem evE_lam (j : Nat) (js : List Nat) : evE C F (.lam j js) ρ μ = some (.o j js, μ) := by simp only [evE]
@[simp] theorem evS_ndef (i j : Nat) (js : List Nat) : evS C F (.ndef i j js) ρ μ = some (.nx, ρ.set i (some (.o j js)), μ) := by simp only [evS]
@[simp] theorem cloVs_nil : cloVs ρ [] = some [] := rfl
@[simp] theorem cloVs_cons (v : Val) (vs : List Val) : cloVs ρ (v :: vs) = (cloV ρ v).bind fun w => (cloVs ρ vs).map (w :: ·) := rfl
@[simp] theorem cloV_d (x : D) : cloV ρ (.d x) = some (.d x) := rfl
@[simp] theorem cloV_p (i : Nat) : cloV ρ (.p i) = some (.p i) := rfl
@[simp] theorem cloV_c (j : Nat) (e : List Val) : cloV ρ (.c j e) = some (.c j e) := rfl
@[simp] theorem cloV_o (j : Nat) (js : List Nat) : cloV ρ (.o j js) = (envOf ρ js).map (.c j) := rfl
@[simp] theorem envOf_nil : envOf ρ [] = some [] := rfl
def enV : Option (Option Val) → Option Val
  | some (some (.d x)) => some (.d x)
  | some (some (.c j e)) => some (.c j e)
  | _ => none
@[simp] theorem enV_d (x : D) : enV (some (some (.d x))) = some (.d x) := rfl
@[simp] theorem enV_c (j : Nat) (e : List Val) : enV (some (some (.c j e))) = some (.c j e) := rfl
@[simp] theorem envOf_cons (i : Nat) (is : List Nat) : envOf ρ (i :: is) = (enV ρ[i]?).bind fun w => (envOf ρ is).map (w :: ·) := by
  rw [envOf]
  cases h : ρ[i]? with
  | none => rfl
  | some o =>
    cases o with
    | none => rfl
    | some v => cases v <;> rfl
@[simp] theorem plainV_d (x : D) : plainV (.d x) = true := rfl
@[simp] theorem plainV_p (i : Nat) : plainV (.p i) = true := rfl
@[simp] theorem bdV_c (μ : Store) (j : Nat) (e : List Val) : bdV μ (.c j e) = true := rfl
@[simp] theorem evE_pop (a e : E) : evE C F (.pop a e) ρ μ = (evE C F a ρ μ).bind fun r => (deref r.2 r.1).bind fun _ => (toI (evE C F e ρ r.2)).bind fun q => popV q.2 r.1 q.1 := by simp only [evE]
@[simp] theorem evE_ixof (a e : E) : evE C F (.ixof a e) ρ μ = (evE C F a ρ μ).bind fun r => (deref r.2 r.1).bind fun _ => (evE C F e ρ r.2).bind fun q => rd2 q.2 r.1 q.1 ixofD := by simp only [evE]
@[simp] theorem evE_sset (e : E) : evE C F (.sset e) ρ μ = (evE C F e ρ μ).bind fun r => rd1 r.2 r.1 ssetD := by simp only [evE]
@[simp] theorem evE_lrv (e : E) : evE C F (.lrv e) ρ μ = (evE C F e ρ μ).bind fun r => rd1 r.2 r.1 lrvD := by simp only [evE]
@[simp] theorem evE_trv (e : E) : evE C F (.trv e) ρ μ = (evE C F e ρ μ).bind fun r => rd1 r.2 r.1 trvD := by simp only [evE]
@[simp] theorem evE_lset (e : E) : evE C F (.lset e) ρ μ = (evE C F e ρ μ).bind fun r => rd1 r.2 r.1 lsetD := by simp only [evE]
@[simp] theorem evE_mm2 (t : Bool) (a e : E) : evE C F (.mm2 t a e) ρ μ = (evE C F a ρ μ).bind fun r => (evE C F e ρ r.2).bind fun q => rd2 q.2 r.1 q.1 (mmD t) := by simp only [evE]
@[simp] theorem evE_srt (e : E) : evE C F (.srt e) ρ μ = (evE C F e ρ μ).bind fun r => rd1 r.2 r.1 srtD := by simp only [evE]
theorem evE_rgL (e : E) : evE C F (.rgL e) ρ μ = (toI (evE C F e ρ μ)).bind fun r => if rngOk 0 r.1 = true then some (.d (.list (rngD 0 r.1)), r.2) else none := by simp only [evE]
theorem evE_rgT (e : E) : evE C F (.rgT e) ρ μ = (toI (evE C F e ρ μ)).bind fun r => if rngOk 0 r.1 = true then some (.d (.tuple (rngD 0 r.1)), r.2) else none := by simp only [evE]
@[simp] theorem evE_bi (b : BI) (e : E) : evE C F (.bi b e) ρ μ = (evE C F e ρ μ).bind fun r => rd1 r.2 r.1 (biD b) := by simp only [evE]
@[simp] theorem evEs_nil : evEs C F .nil ρ μ = some ([], μ) := by simp only [evEs]
@[simp] theorem evEs_cons (e : E) (es : Es) : evEs C F (.cons e es) ρ μ = (toF (evE C F e ρ μ)).bind fun r => (evEs C F es ρ r.2).bind fun q => some (r.1 :: q.1, q.2) := by simp only [evEs]
@[simp] theorem evVs_nil : evVs C F .nil ρ μ = some ([], μ) := by simp only [evVs]
@[simp] theorem evVs_cons (e : E) (es : Es) : evVs C F (.cons e es) ρ μ = (evE C F e ρ μ).bind fun r => (evVs C F es ρ r.2).bind fun q => some (r.1 :: q.1, q.2) := by simp only [evVs]
@[simp] theorem evAnd_one (e : E) : evAnd C F (.cons e .nil) ρ μ = toB (evE C F e ρ μ) := by simp only [evAnd]
@[simp] theorem evAnd_two (e e' : E) (es : Es) : evAnd C F (.cons e (.cons e' es)) ρ μ = (toB (evE C F e ρ μ)).bind fun r => if r.1 = true then evAnd C F (.cons e' es) ρ r.2 else some (false, r.2) := by rw [evAnd]
@[simp] theorem evOr_one (e : E) : evOr C F (.cons e .nil) ρ μ = toB (evE C F e ρ μ) := by simp only [evOr]
@[simp] theorem evOr_two (e e' : E) (es : Es) : evOr C F (.cons e (.cons e' es)) ρ μ = (toB (evE C F e ρ μ)).bind fun r => if r.1 = true then some (true, r.2) else evOr C F (.cons e' es) ρ r.2 := by rw [evOr]
@[simp] theorem evCs_nil : evCs C F .nil ρ μ = some (true, μ) := by simp only [evCs]
@[simp] theorem evCs_one (e : E) : evCs C F (.cons e .nil) ρ μ = toT (evE C F e ρ μ) := by simp only [evCs]
@[simp] theorem evO_no : evO C F .no ρ μ = some (none, μ) := by simp only [evO]
@[simp] theorem evO_so (e : E) : evO C F (.so e) ρ μ = (toI (evE C F e ρ μ)).bind fun r => some (some r.1, r.2) := by simp only [evO]
theorem evI_rng (e : E) : evI C F (.rng e) ρ μ = (toI (evE C F e ρ μ)).bind fun r => if rngOk 0 r.1 = true then some ((rngD 0 r.1, .d .none), r.2) else none := by simp only [evI]
theorem evI_rng3 (e e' e'' : E) : evI C F (.rng3 e e' e'') ρ μ = (toI (evE C F e ρ μ)).bind fun r => (toI (evE C F e' ρ r.2)).bind fun q => (toI (evE C F e'' ρ q.2)).bind fun z => if z.1 = -1 ∧ rngOk q.1 r.1 = true then some ((rngB r.1 q.1, .d .none), z.2) else none := by simp only [evI]
theorem evI_rng2 (e e' : E) : evI C F (.rng2 e e') ρ μ = (toI (evE C F e ρ μ)).bind fun r => (toI (evE C F e' ρ r.2)).bind fun q => if rngOk r.1 q.1 = true then some ((rngD r.1 q.1, .d .none), q.2) else none := by simp only [evI]
def itD (v : Val) (μ : Store) : D → Option ((List D × Val) × Store)
  | .list xs => some ((xs, v), μ)
  | .tuple xs => some ((xs, v), μ)
  | _ => none
@[simp] theorem itD_list (v : Val) (μ : Store) (xs : List D) : itD v μ (.list xs) = some ((xs, v), μ) := rfl
@[simp] theorem itD_tuple (v : Val) (μ : Store) (xs : List D) : itD v μ (.tuple xs) = some ((xs, v), μ) := rfl
@[simp] theorem evI_seq (e : E) : evI C F (.seq e) ρ μ = (evE C F e ρ μ).bind fun r => (deref r.2 r.1).bind (itD r.1 r.2) := by
  simp only [evI]
  congr 1
@[simp] theorem evSs_nil : evSs C F [] ρ μ = some (.nx, ρ, μ) := by simp only [evSs]
def nxt (g : Rho → Store → Option (Flow × RS)) : Flow × RS → Option (Flow × RS)
  | (.nx, x) => g x.1 x.2
  | (f, x) => some (f, x)
@[simp] theorem nxt_nx (g : Rho → Store → Option (Flow × RS)) (ρ : Rho) (μ : Store) : nxt g (.nx, ρ, μ) = g ρ μ := rfl
@[simp] theorem nxt_ret (g : Rho → Store → Option (Flow × RS)) (v : Val) (x : RS) : nxt g (.ret v, x) = some (.ret v, x) := rfl
@[simp] theorem nxt_bk (g : Rho → Store → Option (Flow × RS)) (x : RS) : nxt g (.bk, x) = some (.bk, x) := rfl
@[simp] theorem nxt_xc (g : Rho → Store → Option (Flow × RS)) (j : Nat) (x : RS) : nxt g (.xc j, x) = some (.xc j, x) := rfl
@[simp] theorem nxt_ct (g : Rho → Store → Option (Flow × RS)) (x : RS) : nxt g (.ct, x) = some (.ct, x) := rfl
@[simp] theorem evSs_cons (s : S) (r : List S) : evSs C F (s :: r) ρ μ = (evS C F s ρ μ).bind (nxt fun ρ μ => evSs C F r ρ μ) := by
  simp only [evSs]
  congr 1
  funext ⟨f, x⟩
  cases f <;> rfl
@[simp] theorem evS_set (i : Nat) (e : E) : evS C F (.set i e) ρ μ = (evE C F e ρ μ).bind fun r => if bdV r.2 r.1 = true then some (.nx, ρ.set i (some r.1), r.2) else none := by simp only [evS]
def mkM (ρ : Rho) (i : Nat) : Val × Store → Option (Flow × RS)
  | (.d (.list xs), μ1) => some (.nx, ρ.set i (some (.p μ1.length)), μ1 ++ [some xs])
  | _ => none
@[simp] theorem mkM_list (ρ : Rho) (i : Nat) (xs : List D) (μ1 : Store) : mkM ρ i (.d (.list xs), μ1) = some (.nx, ρ.set i (some (.p μ1.length)), μ1 ++ [some xs]) := rfl
@[simp] theorem evS_setM (i : Nat) (e : E) : evS C F (.setM i e) ρ μ = (evE C F e ρ μ).bind (mkM ρ i) := by
  simp only [evS]
  congr 1
  funext ⟨v, m⟩
  rcases v with d | j | _ | _
  · cases d <;> rfl
  · rfl
  · rfl
  · rfl
def reM (ρ : Rho) : Val × Store → Option (Flow × RS)
  | (.d (.list xs), μ1) => some (.ret (.p μ1.length), ρ, μ1 ++ [some xs])
  | _ => none
@[simp] theorem reM_list (ρ : Rho) (xs : List D) (μ1 : Store) : reM ρ (.d (.list xs), μ1) = some (.ret (.p μ1.length), ρ, μ1 ++ [some xs]) := rfl
@[simp] theorem evS_retM (e : E) : evS C F (.retM e) ρ μ = (evE C F e ρ μ).bind (reM ρ) := by
  simp only [evS]
  congr 1
  funext ⟨v, m⟩
  rcases v with d | j | _ | _
  · cases d <;> rfl
  · rfl
  · rfl
  · rfl
@[simp] theorem evS_ret (e : E) : evS C F (.ret e) ρ μ = (evE C F e ρ μ).bind fun r => some (.ret r.1, ρ, r.2) := by simp only [evS]
@[simp] theorem evS_retN : evS C F .retN ρ μ = some (.ret (.d .none), ρ, μ) := by simp only [evS]
@[simp] theorem evS_par (i j : Nat) (e d : E) : evS C F (.par i j e d) ρ μ = (evE C F e ρ μ).bind fun r => (evE C F d ρ r.2).bind fun q => if bdV q.2 r.1 = true ∧ bdV q.2 q.1 = true then some (.nx, (ρ.set i (some r.1)).set j (some q.1), q.2) else none := by simp only [evS]
@[simp] theorem evS_app (a e : E) : evS C F (.app a e) ρ μ = (evE C F a ρ μ).bind fun r => (deref r.2 r.1).bind fun _ => (toF (evE C F e ρ r.2)).bind fun q => (appV q.2 r.1 q.1).map fun m => (.nx, ρ, m) := by simp only [evS]
@[simp] theorem evS_rai (j : Nat) (e : E) : evS C F (.rai j e) ρ μ = (evE C F e ρ μ).bind fun r => some (.xc j, ρ, r.2) := by simp only [evS]
@[simp] theorem evS_put (a i e : E) : evS C F (.put a i e) ρ μ = (toF (evE C F e ρ μ)).bind fun r => (evE C F a ρ r.2).bind fun q => (toI (evE C F i ρ q.2)).bind fun t => (putV t.2 q.1 t.1 r.1).map fun m => (.nx, ρ, m) := by simp only [evS]
@[simp] theorem evS_put2 (a i b j e d : E) : evS C F (.put2 a i b j e d) ρ μ = (toF (evE C F e ρ μ)).bind fun y => (toF (evE C F d ρ y.2)).bind fun z => (evE C F a ρ z.2).bind fun v => (toI (evE C F i ρ v.2)).bind fun k => (putV k.2 v.1 k.1 y.1).bind fun μ5 =>
      (evE C F b ρ μ5).bind fun w => (toI (evE C F j ρ w.2)).bind fun l => (putV l.2 w.1 l.1 z.1).map fun μ8 => (.nx, ρ, μ8) := by simp only [evS]
@[simp] theorem evS_ife (c : E) (a b : List S) : evS C F (.ife c a b) ρ μ = (toT (evE C F c ρ μ)).bind fun r => if r.1 = true then evSs C F a ρ r.2 else evSs C F b ρ r.2 := by simp only [evS]
end

theorem rng_ok {C : Cons} {F : Calls} {ρ : Rho} {μ μ1 : Store} {e : E} {b : Int} (h : evE C F e ρ μ = some (.d (.int b), μ1)) (hr : rngOk 0 b = true) : evI C F (.rng e) ρ μ = some ((rngD 0 b, .d .none), μ1) := by
  rw [evI_rng, h]
  show (if rngOk 0 b = true then _ else _) = _
  rw [if_pos hr]
theorem rgL_ok {C : Cons} {F : Calls} {ρ : Rho} {μ μ1 : Store} {e : E} {b : Int} (h : evE C F e ρ μ = some (.d (.int b), μ1)) (hr : rngOk 0 b = true) : evE C F (.rgL e) ρ μ = some (.d (.list (rngD 0 b)), μ1) := by
  rw [evE_rgL, h]
  show (if rngOk 0 b = true then _ else _) = _
  rw [if_pos hr]
theorem rgT_ok {C : Cons} {F : Calls} {ρ : Rho} {μ μ1 : Store} {e : E} {b : Int} (h : evE C F e ρ μ = some (.d (.int b), μ1)) (hr : rngOk 0 b = true) : evE C F (.rgT e) ρ μ = some (.d (.tuple (rngD 0 b)), μ1) := by
  rw [evE_rgT, h]
  show (if rngOk 0 b = true then _ else _) = _
  rw [if_pos hr]
theorem rng2_ok {C : Cons} {F : Calls} {ρ : Rho} {μ μ1 μ2 : Store} {e e' : E} {a b : Int} (h : evE C F e ρ μ = some (.d (.int a), μ1)) (h' : evE C F e' ρ μ1 = some (.d (.int b), μ2)) (hr : rngOk a b = true) : evI C F (.rng2 e e') ρ μ = some ((rngD a b, .d .none), μ2) := by
  rw [evI_rng2, h]
  show (toI (evE C F e' ρ μ1)).bind _ = _
  rw [h']
  show (if rngOk a b = true then _ else _) = _
  rw [if_pos hr]
/-! ### small steps -/
@[simp] theorem toD_d (x : D) (μ : Store) : toD (some (.d x, μ)) = some (x, μ) := rfl
@[simp] theorem toB_b (b : Bool) (μ : Store) : toB (some (.d (.bool b), μ)) = some (b, μ) := rfl
@[simp] theorem toI_i (i : Int) (μ : Store) : toI (some (.d (.int i), μ)) = some (i, μ) := rfl
@[simp] theorem toF_d (x : D) (μ : Store) : toF (some (.d x, μ)) = some (x, μ) := rfl
@[simp] theorem toT_b (b : Bool) (μ : Store) : toT (some (.d (.bool b), μ)) = some (b, μ) := rfl
@[simp] theorem deref_d (x : D) (μ : Store) : deref μ (.d x) = some x := rfl
@[simp] theorem rd1_d (x : D) (μ : Store) (f : D → Option D) : rd1 μ (.d x) f = (f x).map fun z => (.d z, μ) := rfl
@[simp] theorem rd2_d (x y : D) (μ : Store) (f : D → D → Option D) : rd2 μ (.d x) (.d y) f = (f x y).map fun z => (.d z, μ) := rfl
@[simp] theorem bdV_dd (x : D) (μ : Store) : bdV μ (.d x) = true := rfl
@[simp] theorem noneV_none : noneV (.d .none) = true := rfl
@[simp] theorem newL_list (xs : List D) (μ : Store) : newL (some (.d (.list xs), μ)) = some (.d (.list xs), μ) := rfl
@[simp] theorem deref_p0 (xs : List D) (r : Store) : deref (some xs :: r) (.p 0) = some (.list xs) := rfl

/-! ### a call -/
theorem endD_d (μ : Store) (x : D) : endD μ (.d x) μ = some (.d x, μ) := by simp [endD]
theorem endD_d' {μ μ1 : Store} (x : D) (h : μ1.take μ.length = μ) (h2 : μ.length ≤ μ1.length) : endD μ (.d x) μ1 = some (.d x, μ) := by simp [endD, h, h2]

/-! ### comprehensions -/
theorem compL_pure {ok : Store → Prop} {f : D → Store → Option (List D × Store)} {μ : Store} (g : D → List D) (hok : ok μ) : ∀ {xs : List D}, (∀ x ∈ xs, f x μ = some (g x, μ)) → compL ok f xs μ = some (xs.flatMap g, μ)
  | [], _ => by simp [compL, hok]
  | x :: xs, h => by
    have h1 := h x List.mem_cons_self
    have h2 := compL_pure g hok (xs := xs) fun y hy => h y (List.mem_cons_of_mem _ hy)
    simp [compL, hok, h1, h2]
/-- a comprehension that changes nothing -/
theorem ev_comp {own : List Nat} {tg : Tg} {it : It} {cs : Es} {elt : E} {xs : List D} {w : D} {μ1 : Store} (c : D → Bool) (g : D → D) (hi : evI C F it ρ μ = some ((xs, .d w), μ1))
    (h : ∀ x ∈ xs, ∃ ρ1, tgS (wipeR ρ own) tg x = some ρ1 ∧ evCs C F cs ρ1 μ1 = some (c x, μ1) ∧ (c x = true → evE C F elt ρ1 μ1 = some (.d (g x), μ1))) :
    evE C F (.comp own tg it cs elt) ρ μ = some (.d (.list ((xs.filter c).map g)), μ1) := by
  simp only [evE, hi, Option.bind_some]
  rw [compL_pure (fun x => if c x = true then [g x] else []) trivial]
  · simp only [Option.bind_some]
    congr 3
    induction xs with
    | nil => rfl
    | cons x xs ih =>
      have ih' : List.flatMap (fun x => if c x = true then [g x] else []) xs = List.map g (List.filter c xs) := by
        clear ih hi h
        induction xs with
        | nil => rfl
        | cons y ys ih => cases e : c y <;> simp [e, ih]
      cases e : c x <;> simp [e, ih']
  · intro x hx
    obtain ⟨ρ1, e1, e2, e3⟩ := h x hx
    cases e : c x with
    | false => simp [e1, e2, e]
    | true => simp [e1, e2, e, e3 e]
/-- .. that takes all -/
theorem ev_map {own : List Nat} {tg : Tg} {it : It} {elt : E} {xs : List D} {w : D} {μ1 : Store} (g : D → D) (hi : evI C F it ρ μ = some ((xs, .d w), μ1))
    (h : ∀ x ∈ xs, ∃ ρ1, tgS (wipeR ρ own) tg x = some ρ1 ∧ evE C F elt ρ1 μ1 = some (.d (g x), μ1)) :
    evE C F (.comp own tg it .nil elt) ρ μ = some (.d (.list (xs.map g)), μ1) := by
  have e := ev_comp (cs := .nil) (fun _ => true) g hi fun x hx => let ⟨ρ1, h1, h2⟩ := h x hx; ⟨ρ1, h1, by simp, fun _ => h2⟩
  rw [e]
  have : xs.filter (fun _ => true) = xs := List.filter_eq_self.mpr fun _ _ => rfl
  rw [this]
/-- what the turns gave -/
inductive FM (R : D → List D → Prop) : List D → List D → Prop where
  | nil : FM R [] []
  | cons {x : D} {zs : List D} {xs ys : List D} (h : R x zs) (t : FM R xs ys) : FM R (x :: xs) (zs ++ ys)
theorem compL_inv {ok : Store → Prop} {f : D → Store → Option (List D × Store)} (I : Store → Prop) (R : D → List D → Prop) (hok : ∀ μ, I μ → ok μ) : ∀ {xs : List D} {μ : Store}, I μ →
    (∀ x ∈ xs, ∀ μ, I μ → ∃ zs μ', f x μ = some (zs, μ') ∧ I μ' ∧ R x zs) → ∃ ys μ', compL ok f xs μ = some (ys, μ') ∧ I μ' ∧ FM R xs ys
  | [], μ, h0, _ => ⟨[], μ, by simp [compL, hok μ h0], h0, .nil⟩
  | x :: xs, μ, h0, h => by
    obtain ⟨zs, μ1, e1, i1, r1⟩ := h x List.mem_cons_self μ h0
    obtain ⟨ys, μ2, e2, i2, r2⟩ := compL_inv I R hok (xs := xs) i1 fun y hy => h y (List.mem_cons_of_mem _ hy)
    exact ⟨zs ++ ys, μ2, by simp [compL, hok μ h0, e1, e2], i2, .cons r1 r2⟩
/-- a comprehension with an invariant -/
theorem ev_compI {own : List Nat} {tg : Tg} {it : It} {cs : Es} {elt : E} {xs : List D} {w : D} {μ1 : Store} (I : Store → Prop) (R : D → List D → Prop) (hi : evI C F it ρ μ = some ((xs, .d w), μ1)) (h0 : I μ1)
    (h : ∀ x ∈ xs, ∀ μ, I μ → ∃ ρ1, tgS (wipeR ρ own) tg x = some ρ1 ∧ ∃ c μ2, evCs C F cs ρ1 μ = some (c, μ2) ∧ ((c = true ∧ ∃ y μ3, toF (evE C F elt ρ1 μ2) = some (y, μ3) ∧ I μ3 ∧ R x [y]) ∨ (c = false ∧ I μ2 ∧ R x []))) :
    ∃ ys μ', evE C F (.comp own tg it cs elt) ρ μ = some (.d (.list ys), μ') ∧ I μ' ∧ FM R xs ys := by
  obtain ⟨ys, μ', e, i, r⟩ := compL_inv (ok := Still (.d w) xs) (f := fun x μ1 => (tgS (wipeR ρ own) tg x).bind fun ρ1 => (evCs C F cs ρ1 μ1).bind fun (k, μ2) =>
        if k = true then (toF (evE C F elt ρ1 μ2)).bind fun (y, μ3) => some ([y], μ3) else some ([], μ2)) I R (fun _ _ => trivial) h0 (fun x hx μ hμ => by
    obtain ⟨ρ1, e1, c, μ2, e2, h⟩ := h x hx μ hμ
    rcases h with ⟨rfl, y, μ3, e3, i3, r3⟩ | ⟨rfl, i3, r3⟩
    · exact ⟨[y], μ3, by simp [e1, e2, e3], i3, r3⟩
    · exact ⟨[], μ2, by simp [e1, e2], i3, r3⟩)
  refine ⟨ys, μ', ?_, i, r⟩
  simp only [evE, hi, Option.bind_some]
  rw [e]
  rfl
theorem FM.all {R : D → List D → Prop} {P : D → Prop} (h : ∀ x zs, R x zs → ∀ z ∈ zs, P z) : ∀ {xs ys : List D}, FM R xs ys → ∀ y ∈ ys, P y
  | _, _, .nil, _, hy => by cases hy
  | _, _, .cons r t, y, hy => by
    rcases List.mem_append.mp hy with hy | hy
    · exact h _ _ r y hy
    · exact t.all h y hy
theorem FM.len {R : D → List D → Prop} (h : ∀ x zs, R x zs → zs.length = 1) : ∀ {xs ys : List D}, FM R xs ys → ys.length = xs.length
  | _, _, .nil => rfl
  | _, _, .cons r t => by simp [h _ _ r, t.len h]; omega
theorem FM.le {R : D → List D → Prop} (h : ∀ x zs, R x zs → zs.length ≤ 1) : ∀ {xs ys : List D}, FM R xs ys → ys.length ≤ xs.length
  | _, _, .nil => by simp
  | _, _, .cons r t => by
    have := h _ _ r
    have := t.le h
    simp; omega

/-! ### loops -/
theorem forO_inv {α : Type} {ok : α → Prop} {f : D → α → Option (α ⊕ (Flow × α))} (I : List D → α → Prop) (P : Flow × α → Prop) (hok : ∀ xs a, I xs a → ok a)
    (step : ∀ x r a, I (x :: r) a → (∃ a', f x a = some (.inl a') ∧ I r a') ∨ (∃ q, f x a = some (.inr q) ∧ P q)) (fin : ∀ a, I [] a → P (.nx, a)) : ∀ (xs : List D) (a : α), I xs a → ∃ q, forO ok f xs a = some q ∧ P q
  | [], a, h => ⟨_, by simp [forO, hok _ _ h], fin a h⟩
  | x :: xs, a, h => by
    rcases step x xs a h with ⟨a', e, i⟩ | ⟨q, e, p⟩
    · obtain ⟨q, e2, p⟩ := forO_inv I P hok step fin xs a' i
      exact ⟨q, by simp [forO, hok _ _ h, e, e2], p⟩
    · exact ⟨q, by simp [forO, hok _ _ h, e], p⟩
def endsB (I : Rho → Store → Prop) (P : Flow → Rho → Store → Prop) : Flow → Rho → Store → Prop
  | .nx, ρ, μ => I ρ μ
  | .ct, ρ, μ => I ρ μ
  | .bk, ρ, μ => P .nx ρ μ
  | .ret v, ρ, μ => P (.ret v) ρ μ
  | .xc j, ρ, μ => P (.xc j) ρ μ
/-- a for over a list that stays, with an invariant of what is left -/
theorem ev_for {tg : Tg} {it : It} {b : List S} {xs : List D} {w : D} {μ1 : Store} (I : List D → Rho → Store → Prop) (P : Flow → Rho → Store → Prop) (hi : evI C F it ρ μ = some ((xs, .d w), μ1)) (h0 : I xs ρ μ1)
    (step : ∀ x r ρ μ, I (x :: r) ρ μ → ∃ ρ1, tgS ρ tg x = some ρ1 ∧ ∃ f ρ' μ', evSs C F b ρ1 μ = some (f, ρ', μ') ∧ endsB (I r) P f ρ' μ') (fin : ∀ ρ μ, I [] ρ μ → P .nx ρ μ) :
    ∃ f ρ' μ', evS C F (.for_ tg it b) ρ μ = some (f, ρ', μ') ∧ P f ρ' μ' := by
  obtain ⟨⟨f, ρ', μ'⟩, e, p⟩ := forO_inv (ok := fun (x : RS) => Still (.d w) xs x.2) (f := fun x (a : RS) => (tgS a.1 tg x).bind fun ρ1 => (evSs C F b ρ1 a.2).bind fun (f, y) => match f with
      | .nx => some (.inl y)
      | .ct => some (.inl y)
      | .bk => some (.inr (.nx, y))
      | .xc j => some (.inr (.xc j, y))
      | .ret v => some (.inr (.ret v, y))) (fun r a => I r a.1 a.2) (fun q => P q.1 q.2.1 q.2.2) (fun _ _ _ => trivial) (fun x r a h => by
    obtain ⟨ρ1, e1, f, ρ', μ', e2, h⟩ := step x r a.1 a.2 h
    cases f with
    | nx => exact .inl ⟨(ρ', μ'), by simp [e1, e2], h⟩
    | ct => exact .inl ⟨(ρ', μ'), by simp [e1, e2], h⟩
    | bk => exact .inr ⟨(.nx, ρ', μ'), by simp [e1, e2], h⟩
    | ret v => exact .inr ⟨(.ret v, ρ', μ'), by simp [e1, e2], h⟩
    | xc j => exact .inr ⟨(.xc j, ρ', μ'), by simp [e1, e2], h⟩) (fun a h => fin _ _ h) xs (ρ, μ1) h0
  refine ⟨f, ρ', μ', ?_, p⟩
  simp only [evS, hi, Option.bind_some]
  exact e
end Mu

/-! data -/
namespace Mu
open PySem

/-! ### what may be compared -/
theorem shp_of {x : D} (h : x.canLay0 = true) (h2 : x.depth ≤ 64) : shp x = true := by
  unfold shp SeqAt.shaped
  rw [h, decide_eq_true h2]
  rfl
@[simp] theorem shp_int (i : Int) : shp (.int i) = true := shp_of rfl (Nat.zero_le _)
@[simp] theorem shp_bool (i : Bool) : shp (.bool i) = true := shp_of rfl (Nat.zero_le _)
@[simp] theorem shp_none : shp .none = true := shp_of rfl (Nat.zero_le _)
@[simp] theorem eqv_int (i j : Int) : PyData.eqv (.int i) (.int j) = (i == j) := by simp only [PyData.eqv]
@[simp] theorem eqv_bool (i j : Bool) : PyData.eqv (.bool i) (.bool j) = (i == j) := by simp only [PyData.eqv]
@[simp] theorem cmp_eq_s (i j : Str) : cmpD .eq (.str i) (.str j) = some (.bool (decide (i = j))) := rfl
@[simp] theorem cmp_ne_s (i j : Str) : cmpD .ne (.str i) (.str j) = some (.bool (!decide (i = j))) := rfl
theorem eqD_of {x y : D} (h : strEq x y = none) (h1 : shp x = true) (h2 : shp y = true) : eqD x y = some (PyData.eqv x y) := by
  unfold eqD
  rw [h]
  simp [h1, h2]
mutual
/-- ints and tuples of them, so deep -/
def Ti : Nat → D → Bool
  | _, .int _ => true
  | n + 1, .tuple xs => TiA n xs
  | _, _ => false
def TiA : Nat → List D → Bool
  | _, [] => true
  | n, x :: xs => Ti n x && TiA n xs
end
theorem canLay_ints : ∀ ns : List Int, PyData.canLayAll0 (ns.map PyData.int) = true
  | [] => by simp [PyData.canLayAll0]
  | n :: ns => by simp [PyData.canLayAll0, PyData.canLay0, canLay_ints ns]
theorem depth_ints0 : ∀ ns : List Int, PyData.depthAll (ns.map PyData.int) = 0
  | [] => by simp [PyData.depthAll]
  | n :: ns => by simp [PyData.depthAll, PyData.depth, depth_ints0 ns]
@[simp] theorem shp_tints (ns : List Int) : shp (.tuple (ns.map .int)) = true := shp_of (by simp [PyData.canLay0, canLay_ints]) (by simp [PyData.depth, depth_ints0])
@[simp] theorem shp_lints (ns : List Int) : shp (.list (ns.map .int)) = true := shp_of (by simp [PyData.canLay0, canLay_ints]) (by simp [PyData.depth, depth_ints0])
@[simp] theorem shp_lnil : shp (.list []) = true := shp_lints []
@[simp] theorem shp_tnil : shp (.tuple []) = true := shp_tints []
@[simp] theorem eqvAll_nil_l (xs : List D) : PyData.eqvAll xs [] = xs.isEmpty := by cases xs <;> simp [PyData.eqvAll]

/-! ### operators on what is known -/
@[simp] theorem bop_add (i j : Int) : bopD .add (.int i) (.int j) = some (.int (i + j)) := rfl
@[simp] theorem bop_sub (i j : Int) : bopD .sub (.int i) (.int j) = some (.int (i - j)) := rfl
theorem bop_mul (i j : Int) (h : mulOk i j = true) : bopD .mul (.int i) (.int j) = some (.int (i * j)) := if_pos h
theorem mulOk_r (i : Int) {j : Int} (h : -(2 ^ 64) < j) (h2 : j < 2 ^ 64) : mulOk i j = true := by
  simp only [mulOk, Bool.or_eq_true, Bool.and_eq_true, decide_eq_true_eq]
  exact .inr ⟨h, h2⟩
theorem bop_mod (i j : Int) (h : 0 < j) : bopD .mod (.int i) (.int j) = some (.int (i % j)) := if_pos h
theorem bop_fdiv (i j : Int) (h : 0 < j) (h2 : j < 1073741824) : bopD .fdiv (.int i) (.int j) = some (.int (i / j)) := if_pos ⟨h, h2⟩
theorem bop_tup (xs ys : List D) (h : xs.length + ys.length ≤ sizeLine) : bopD .add (.tuple xs) (.tuple ys) = some (.tuple (xs ++ ys)) := if_pos h
theorem bop_lst (xs ys : List D) (h : xs.length + ys.length ≤ sizeLine) : bopD .add (.list xs) (.list ys) = some (.list (xs ++ ys)) := if_pos h
theorem bop_str (x y : Str) (h : x.length + y.length ≤ sizeLine) : bopD .add (.str x) (.str y) = some (.str (x ++ y)) := if_pos h
@[simp] theorem cmp_lt (i j : Int) : cmpD .lt (.int i) (.int j) = some (.bool (decide (i < j))) := rfl
@[simp] theorem cmp_le (i j : Int) : cmpD .le (.int i) (.int j) = some (.bool (decide (i ≤ j))) := rfl
@[simp] theorem cmp_gt (i j : Int) : cmpD .gt (.int i) (.int j) = some (.bool (decide (j < i))) := rfl
@[simp] theorem cmp_ge (i j : Int) : cmpD .ge (.int i) (.int j) = some (.bool (decide (j ≤ i))) := rfl
@[simp] theorem cmp_eq_i (i j : Int) : cmpD .eq (.int i) (.int j) = some (.bool (decide (i = j))) := by
  have := eqD_of (x := .int i) (y := .int j) rfl (shp_int i) (shp_int j)
  simp [cmpD, this]
  rfl
@[simp] theorem cmp_ne_i (i j : Int) : cmpD .ne (.int i) (.int j) = some (.bool (!decide (i = j))) := by
  have := eqD_of (x := .int i) (y := .int j) rfl (shp_int i) (shp_int j)
  simp [cmpD, this]
  rfl
@[simp] theorem cmp_ne_b (i j : Bool) : cmpD .ne (.bool i) (.bool j) = some (.bool (i != j)) := by
  have := eqD_of (x := .bool i) (y := .bool j) rfl (shp_bool i) (shp_bool j)
  simp [cmpD, this]
  cases i <;> cases j <;> rfl
@[simp] theorem cmp_eq_b (i j : Bool) : cmpD .eq (.bool i) (.bool j) = some (.bool (i == j)) := by
  have := eqD_of (x := .bool i) (y := .bool j) rfl (shp_bool i) (shp_bool j)
  simp [cmpD, this]
@[simp] theorem bi_len_t (xs : List D) : biD .len (.tuple xs) = some (.int xs.length) := rfl
@[simp] theorem bi_len_l (xs : List D) : biD .len (.list xs) = some (.int xs.length) := rfl
@[simp] theorem bi_tup_l (xs : List D) : biD .tup (.list xs) = some (.tuple xs) := rfl
@[simp] theorem bi_tup_t (xs : List D) : biD .tup (.tuple xs) = some (.tuple xs) := rfl
@[simp] theorem bi_lst_l (xs : List D) : biD .lst (.list xs) = some (.list xs) := rfl
@[simp] theorem bi_lst_t (xs : List D) : biD .lst (.tuple xs) = some (.list xs) := rfl
@[simp] theorem bi_int_i (i : Int) : biD .int (.int i) = some (.int i) := rfl
theorem boolsD_map {α : Type} (f : α → Bool) : ∀ xs : List α, boolsD (xs.map fun x => PyData.bool (f x)) = some (xs.map f)
  | [] => rfl
  | x :: xs => by simp [boolsD, boolsD_map f xs]
theorem intsD_map' : ∀ ns : List Int, intsD (ns.map PyData.int) = some ns
  | [] => rfl
  | n :: ns => by simp [intsD, intsD_map' ns]
theorem bi_all {α : Type} (f : α → Bool) (xs : List α) : biD .all (.list (xs.map fun x => .bool (f x))) = some (.bool (xs.all f)) := by
  simp only [biD, boolsD_map, Option.map_some, List.all_map]
  rfl
theorem bi_max {n : Int} {ns : List Int} : biD .max (.tuple ((n :: ns).map .int)) = some (.int (ns.foldl max n)) := by
  simp only [biD, intsD_map']

/-! ### places -/
@[simp] theorem atI_zero (x : D) (xs : List D) : L2.atI (x :: xs) 0 = some x := by
  have := L2.atI_nat (xs := x :: xs) (j := 0) (v := x) rfl
  simpa using this
@[simp] theorem atI_one (x y : D) (xs : List D) : L2.atI (x :: y :: xs) 1 = some y := by
  have := L2.atI_nat (xs := x :: y :: xs) (j := 1) (v := y) rfl
  simpa using this
@[simp] theorem atI_two (x y z : D) (xs : List D) : L2.atI (x :: y :: z :: xs) 2 = some z := by
  have := L2.atI_nat (xs := x :: y :: z :: xs) (j := 2) (v := z) rfl
  simpa using this
@[simp] theorem atI_three (x y z u : D) (xs : List D) : L2.atI (x :: y :: z :: u :: xs) 3 = some u := by
  have := L2.atI_nat (xs := x :: y :: z :: u :: xs) (j := 3) (v := u) rfl
  simpa using this
@[simp] theorem atI_four (x y z u w : D) (xs : List D) : L2.atI (x :: y :: z :: u :: w :: xs) 4 = some w := by
  have := L2.atI_nat (xs := x :: y :: z :: u :: w :: xs) (j := 4) (v := w) rfl
  simpa using this
theorem atI_ok {α : Type} {xs : List α} {i : Int} (h0 : 0 ≤ i) (h1 : i < xs.length) : L2.atI xs i = some (xs[i.toNat]'(by omega)) := by
  have h := L2.atI_nat (xs := xs) (j := i.toNat) (v := xs[i.toNat]'(by omega)) (List.getElem?_eq_getElem (by omega))
  rw [show ((i.toNat : Nat) : Int) = i by omega] at h
  exact h
theorem atI_neg {α : Type} (xs : List α) {v : α} (h : xs = [] → False) (e : xs.getLast? = some v) : L2.atI xs (-1) = some v := by
  have h2 := List.dropLast_concat_getLast (l := xs) h
  have h3 : xs.getLast h = v := by
    have := List.getLast?_eq_some_getLast h
    rw [this] at e
    exact Option.some.inj e
  have h4 := L2.atI_last xs.dropLast v
  rw [← h3] at h4 ⊢
  rw [h2] at h4
  exact h4
@[simp] theorem idx_t (xs : List D) (i : Int) : idxD (.tuple xs) (.int i) = L2.atI xs i := rfl
@[simp] theorem idx_l (xs : List D) (i : Int) : idxD (.list xs) (.int i) = L2.atI xs i := rfl
@[simp] theorem sli_t (xs : List D) (lo hi : Option Int) : sliD (.tuple xs) lo hi = some (.tuple (cutD xs lo hi)) := rfl
@[simp] theorem sli_l (xs : List D) (lo hi : Option Int) : sliD (.list xs) lo hi = some (.list (cutD xs lo hi)) := rfl
theorem cut_to (xs : List D) {i : Int} (h0 : 0 ≤ i) : cutD xs none (some i) = xs.take i.toNat := by
  have e : (some i : Option Int) = some ((i.toNat : Nat) : Int) := by congr 1; omega
  unfold cutD
  rw [e, HT.sIx_nat, HT.sIx_none, List.drop_zero, Nat.sub_zero, ← List.take_eq_take_min]
theorem cut_from (xs : List D) {i : Int} (h0 : 0 ≤ i) : cutD xs (some i) none = xs.drop i.toNat := by
  have e : (some i : Option Int) = some ((i.toNat : Nat) : Int) := by congr 1; omega
  unfold cutD
  rw [e, HT.sIx_nat, HT.sIx_none]
  by_cases h : i.toNat ≤ xs.length
  · rw [Nat.min_eq_left h]
    exact List.take_of_length_le (by simp)
  · rw [Nat.min_eq_right (by omega), List.drop_length, List.drop_of_length_le (by omega)]
    simp
theorem cutD_le (xs : List D) (lo hi : Option Int) : (cutD xs lo hi).length ≤ xs.length := by
  unfold cutD
  simp; omega
theorem cutD_mem {xs : List D} {lo hi : Option Int} {x : D} (h : x ∈ cutD xs lo hi) : x ∈ xs := List.mem_of_mem_drop (List.mem_of_mem_take h)

/-! ### ranges -/
theorem rngOk_small {a b : Int} (h0 : 0 ≤ a) (h1 : a ≤ 100000) (h2 : -1 ≤ b) (h3 : b ≤ sizeLine) : rngOk a b = true := by
  have : sizeLine ≤ 2 ^ 40 := by decide
  simp only [rngOk, Bool.and_eq_true, decide_eq_true_eq]
  refine ⟨⟨⟨⟨?_, ?_⟩, ?_⟩, ?_⟩, ?_⟩ <;> omega
theorem rngD_len (a b : Int) : (rngD a b).length = (b - a).toNat := by simp [rngD]
theorem rngD_nat (n : Nat) : rngD 0 n = (List.range n).map fun (k : Nat) => PyData.int k := by
  unfold rngD
  rw [show ((n : Int) - 0).toNat = n by omega]
  congr 1
  funext k
  congr 1
  omega
theorem rngD_mem {a b : Int} {x : D} (h : x ∈ rngD a b) : ∃ k : Int, x = .int k ∧ a ≤ k ∧ k < b := by
  unfold rngD at h
  obtain ⟨k, hk, rfl⟩ := List.mem_map.mp h
  have := List.mem_range.mp hk
  exact ⟨_, rfl, by omega, by omega⟩
end Mu

/-! whiles, comprehensions over anything, cells, lists of what can be told apart -/
namespace Mu
open PySem
variable {C : Cons} {F : Calls} {ρ : Rho} {μ : Store}

/-! ### while -/
theorem iterO_up {α β : Type} {f : α → Option (α ⊕ β)} : ∀ {n m : Nat} {a : α} {b : β}, iterO f n a = some b → n ≤ m → iterO f m a = some b
  | 0, _, _, _, h, _ => by simp [iterO] at h
  | n + 1, 0, _, _, _, hm => by omega
  | n + 1, m + 1, a, b, h, hm => by
    unfold iterO at h ⊢
    cases e : f a with
    | none => rw [e] at h; cases h
    | some x =>
      rw [e] at h
      cases x with
      | inl a' => exact iterO_up (n := n) (m := m) h (by omega)
      | inr b' => exact h
theorem whileO_of {α β : Type} {f : α → Option (α ⊕ β)} {n : Nat} {a : α} {b : β} (h : iterO f n a = some b) : whileO f a = some b := by
  have ex : ∃ n, (iterO f n a).isSome = true := ⟨n, by rw [h]; rfl⟩
  unfold whileO
  rw [dif_pos ex]
  obtain ⟨c, hc⟩ := Option.isSome_iff_exists.mp (Classical.choose_spec ex)
  rw [hc]
  have h1 := iterO_up h (Nat.le_max_left n (Classical.choose ex))
  have h2 := iterO_up hc (Nat.le_max_right n (Classical.choose ex))
  rw [h1] at h2
  exact h2.symm
theorem whileO_inv {α β : Type} {f : α → Option (α ⊕ β)} (I : Nat → α → Prop) (P : β → Prop)
    (step : ∀ n a, I n a → (∃ a' m, f a = some (.inl a') ∧ m < n ∧ I m a') ∨ ∃ b, f a = some (.inr b) ∧ P b) : ∀ n a, I n a → ∃ b, whileO f a = some b ∧ P b := by
  have main : ∀ N n a, n ≤ N → I n a → ∃ k b, iterO f k a = some b ∧ P b := by
    intro N
    induction N with
    | zero =>
      intro n a hn h
      rcases step n a h with ⟨a', m, e, hm, _⟩ | ⟨b, e, p⟩
      · omega
      · exact ⟨1, b, by simp [iterO, e], p⟩
    | succ N ih =>
      intro n a hn h
      rcases step n a h with ⟨a', m, e, hm, i⟩ | ⟨b, e, p⟩
      · obtain ⟨k, b, e2, p⟩ := ih m a' (by omega) i
        exact ⟨k + 1, b, by simp [iterO, e, e2], p⟩
      · exact ⟨1, b, by simp [iterO, e], p⟩
  intro n a h
  obtain ⟨k, b, e, p⟩ := main n n a (Nat.le_refl _) h
  exact ⟨b, whileO_of e, p⟩
def endsW (I : Nat → Rho → Store → Prop) (P : Flow → Rho → Store → Prop) (n : Nat) : Flow → Rho → Store → Prop
  | .nx, ρ, μ => ∃ m, m < n ∧ I m ρ μ
  | .ct, ρ, μ => ∃ m, m < n ∧ I m ρ μ
  | .bk, ρ, μ => P .nx ρ μ
  | .ret v, ρ, μ => P (.ret v) ρ μ
  | .xc j, ρ, μ => P (.xc j) ρ μ
/-- a while, with a number that falls -/
theorem ev_whl {c : E} {b : List S} (I : Nat → Rho → Store → Prop) (P : Flow → Rho → Store → Prop) (n : Nat) (h0 : I n ρ μ)
    (step : ∀ n ρ μ, I n ρ μ → ∃ k μ1, toT (evE C F c ρ μ) = some (k, μ1) ∧ ((k = false ∧ P .nx ρ μ1) ∨ (k = true ∧ ∃ f ρ' μ', evSs C F b ρ μ1 = some (f, ρ', μ') ∧ endsW I P n f ρ' μ'))) :
    ∃ f ρ' μ', evS C F (.whl c b) ρ μ = some (f, ρ', μ') ∧ P f ρ' μ' := by
  obtain ⟨⟨f, ρ', μ'⟩, e, p⟩ := whileO_inv (f := fun (x : RS) => (toT (evE C F c x.1 x.2)).bind fun (k, μ1) =>
      if k = true then (evSs C F b x.1 μ1).bind fun (f, y) => match f with
        | .nx => some (.inl y)
        | .ct => some (.inl y)
        | .bk => some (.inr (.nx, y))
        | .xc j => some (.inr (.xc j, y))
        | .ret v => some (.inr (.ret v, y))
      else some (.inr (Flow.nx, x.1, μ1))) (fun n x => I n x.1 x.2) (fun q => P q.1 q.2.1 q.2.2) (fun n x h => by
    obtain ⟨k, μ1, e1, ⟨rfl, p⟩ | ⟨rfl, f, ρ', μ', e2, h2⟩⟩ := step n x.1 x.2 h
    · exact .inr ⟨(.nx, x.1, μ1), by simp [e1], p⟩
    · cases f with
      | nx => obtain ⟨m, hm, i⟩ := h2; exact .inl ⟨(ρ', μ'), m, by simp [e1, e2], hm, i⟩
      | ct => obtain ⟨m, hm, i⟩ := h2; exact .inl ⟨(ρ', μ'), m, by simp [e1, e2], hm, i⟩
      | bk => exact .inr ⟨(.nx, ρ', μ'), by simp [e1, e2], h2⟩
      | ret v => exact .inr ⟨(.ret v, ρ', μ'), by simp [e1, e2], h2⟩
      | xc j => exact .inr ⟨(.xc j, ρ', μ'), by simp [e1, e2], h2⟩) n (ρ, μ) h0
  refine ⟨f, ρ', μ', ?_, p⟩
  simp only [evS]
  exact e

/-! ### for, by place -/
theorem ev_forL {tg : Tg} {it : It} {b : List S} {xs : List D} {w : D} {μ1 : Store} (I : Nat → Rho → Store → Prop) (P : Flow → Rho → Store → Prop) (hi : evI C F it ρ μ = some ((xs, .d w), μ1)) (h0 : I 0 ρ μ1)
    (step : ∀ j (h : j < xs.length) ρ μ, I j ρ μ → ∃ ρ1, tgS ρ tg xs[j] = some ρ1 ∧ ∃ f ρ' μ', evSs C F b ρ1 μ = some (f, ρ', μ') ∧ endsB (I (j + 1)) P f ρ' μ') (fin : ∀ ρ μ, I xs.length ρ μ → P .nx ρ μ) :
    ∃ f ρ' μ', evS C F (.for_ tg it b) ρ μ = some (f, ρ', μ') ∧ P f ρ' μ' := by
  refine ev_for (fun r ρ μ => ∃ j, r = xs.drop j ∧ j ≤ xs.length ∧ I j ρ μ) P hi ⟨0, rfl, Nat.zero_le _, h0⟩ ?_ ?_
  · rintro x r ρ μ ⟨j, hr, hj, h⟩
    have hl : j < xs.length := by
      rcases Nat.lt_or_ge j xs.length with q | q
      · exact q
      · rw [List.drop_of_length_le q] at hr; cases hr
    rw [List.drop_eq_getElem_cons hl] at hr
    obtain ⟨rfl, rfl⟩ := List.cons.inj hr
    obtain ⟨ρ1, e1, f, ρ', μ', e2, h2⟩ := step j hl ρ μ h
    refine ⟨ρ1, e1, f, ρ', μ', e2, ?_⟩
    cases f with
    | nx => exact ⟨j + 1, rfl, hl, h2⟩
    | ct => exact ⟨j + 1, rfl, hl, h2⟩
    | bk => exact h2
    | ret v => exact h2
    | xc j => exact h2
  · rintro ρ μ ⟨j, hr, hj, h⟩
    have : j = xs.length := by
      have := congrArg List.length hr
      simp at this
      omega
    subst this
    exact fin ρ μ h
/-- for over numbers 0 .. n - 1 -/
theorem ev_forN {i n : Nat} {it : It} {b : List S} {w : D} {μ1 : Store} (I : Nat → Rho → Store → Prop) (P : Flow → Rho → Store → Prop) (hi : evI C F it ρ μ = some ((rngD 0 n, .d w), μ1)) (h0 : I 0 ρ μ1)
    (step : ∀ (j : Nat), j < n → ∀ ρ μ, I j ρ μ → ∃ f ρ' μ', evSs C F b (ρ.set i (some (.d (.int j)))) μ = some (f, ρ', μ') ∧ endsB (I (j + 1)) P f ρ' μ') (fin : ∀ ρ μ, I n ρ μ → P .nx ρ μ) :
    ∃ f ρ' μ', evS C F (.for_ (.nm i) it b) ρ μ = some (f, ρ', μ') ∧ P f ρ' μ' := by
  have hl : (rngD 0 (n : Int)).length = n := by rw [rngD_len]; omega
  refine ev_forL I P hi h0 (fun j h ρ μ hI => ⟨_, rfl, ?_⟩) (fun ρ μ h => fin ρ μ (by rw [← hl]; exact h))
  have h' : j < n := by rw [← hl]; exact h
  have e : (rngD 0 (n : Int))[j] = .int j := by simp [rngD_nat]
  rw [e]
  exact step j h' ρ μ hI

/-! ### comprehensions -/
theorem flatMap_if {α β : Type} (c : α → Bool) (g : α → β) : ∀ xs : List α, xs.flatMap (fun x => if c x = true then [g x] else []) = (xs.filter c).map g
  | [] => rfl
  | x :: xs => by
    cases h : c x <;> simp [h, flatMap_if c g xs]
theorem compL_pureA {α : Type} {ok : Store → Prop} {h : D → Store → Option (List D × Store)} {μ : Store} (f : α → D) (g : α → List D) (hok : ok μ) : ∀ {xs : List α}, (∀ x ∈ xs, h (f x) μ = some (g x, μ)) → compL ok h (xs.map f) μ = some (xs.flatMap g, μ)
  | [], _ => by simp [compL, hok]
  | x :: xs, q => by
    have h1 := q x List.mem_cons_self
    have h2 := compL_pureA f g hok (xs := xs) fun y hy => q y (List.mem_cons_of_mem _ hy)
    simp [compL, hok, h1, h2]
/-- .. that changes nothing, over the images of xs -/
theorem ev_filtA {α : Type} {own : List Nat} {tg : Tg} {it : It} {cs : Es} {elt : E} {xs : List α} {v : Val} {μ1 : Store} (f : α → D) (c : α → Bool) (g : α → D) (hi : evI C F it ρ μ = some ((xs.map f, v), μ1)) (hs : Still v (xs.map f) μ1)
    (h : ∀ x ∈ xs, ∃ ρ1, tgS (wipeR ρ own) tg (f x) = some ρ1 ∧ evCs C F cs ρ1 μ1 = some (c x, μ1) ∧ (c x = true → evE C F elt ρ1 μ1 = some (.d (g x), μ1))) :
    evE C F (.comp own tg it cs elt) ρ μ = some (.d (.list ((xs.filter c).map g)), μ1) := by
  simp only [evE, hi, Option.bind_some]
  rw [compL_pureA f (fun x => if c x = true then [g x] else []) hs, flatMap_if]
  · rfl
  · intro x hx
    obtain ⟨ρ1, e1, e2, e3⟩ := h x hx
    cases hc : c x with
    | true => simp [e1, e2, hc, e3 hc]
    | false => simp [e1, e2, hc]
theorem ev_mapA {α : Type} {own : List Nat} {tg : Tg} {it : It} {elt : E} {xs : List α} {v : Val} {μ1 : Store} (f : α → D) (g : α → D) (hi : evI C F it ρ μ = some ((xs.map f, v), μ1)) (hs : Still v (xs.map f) μ1)
    (h : ∀ x ∈ xs, ∃ ρ1, tgS (wipeR ρ own) tg (f x) = some ρ1 ∧ evE C F elt ρ1 μ1 = some (.d (g x), μ1)) :
    evE C F (.comp own tg it .nil elt) ρ μ = some (.d (.list (xs.map g)), μ1) := by
  have e := ev_filtA (C := C) (F := F) (ρ := ρ) (μ := μ) (own := own) (tg := tg) (it := it) (cs := .nil) (elt := elt) f (fun _ => true) g hi hs fun x hx => by
    obtain ⟨ρ1, e1, e2⟩ := h x hx
    exact ⟨ρ1, e1, by simp, fun _ => e2⟩
  rw [e, List.filter_eq_self.mpr fun _ _ => rfl]
/-- two fors, none of which changes anything -/
theorem ev_comp2A {α β : Type} {own : List Nat} {tg tg' : Tg} {it it' : It} {cs : Es} {elt : E} {xs : List α} {v : Val} {μ1 : Store} (f : α → D) (ys : α → List β) (f' : β → D) (c : α → β → Bool) (g : α → β → D)
    (hi : evI C F it ρ μ = some ((xs.map f, v), μ1)) (hs : Still v (xs.map f) μ1) (hz : (xs.flatMap fun x => ((ys x).filter (c x)).map (g x)).length ≤ sizeLine)
    (h : ∀ x ∈ xs, ∃ ρ1 w, tgS (wipeR ρ own) tg (f x) = some ρ1 ∧ evI C F it' ρ1 μ1 = some (((ys x).map f', w), μ1) ∧ Still w ((ys x).map f') μ1 ∧
      ∀ y ∈ ys x, ∃ ρ2, tgS (wipeR ρ1 tg'.ix) tg' (f' y) = some ρ2 ∧ evCs C F cs ρ2 μ1 = some (c x y, μ1) ∧ (c x y = true → evE C F elt ρ2 μ1 = some (.d (g x y), μ1))) :
    evE C F (.comp2 own tg it tg' it' cs elt) ρ μ = some (.d (.list (xs.flatMap fun x => ((ys x).filter (c x)).map (g x))), μ1) := by
  simp only [evE, hi, Option.bind_some]
  rw [compL_pureA f (fun x => ((ys x).filter (c x)).map (g x)) hs]
  · simp only [Option.bind_some]
    rw [if_pos hz]
  · intro x hx
    obtain ⟨ρ1, w, e1, e2, hw, h2⟩ := h x hx
    simp only [e1, e2, Option.bind_some]
    rw [compL_pureA f' (fun y => if c x y = true then [g x y] else []) hw, flatMap_if]
    intro y hy
    obtain ⟨ρ2, e3, e4, e5⟩ := h2 y hy
    cases hc : c x y with
    | true => simp [e3, e4, hc, e5 hc]
    | false => simp [e3, e4, hc]

/-! ### cells -/
def Cell (m : Store) (i : Nat) (xs : List D) : Prop := m[i]? = some (some xs)
section
variable {m : Store} {i j : Nat} {xs ys : List D} {z : Option (List D)}
theorem Cell.lt (h : Cell m i xs) : i < m.length := (List.getElem?_eq_some_iff.mp h).1
theorem Cell.deref (h : Cell m i xs) : deref m (.p i) = some (.list xs) := by
  unfold Mu.deref
  unfold Cell at h
  simp only [h]
theorem Cell.bd (h : Cell m i xs) : bdV m (.p i) = true := by
  have := h.lt
  simp [bdV, this]
theorem Cell.still (h : Cell m i xs) : Still (.p i) xs m := h
theorem Cell.ap (h : Cell m i xs) (y : D) (z : xs.length < sizeLine) : appV m (.p i) y = some (m.set i (some (xs ++ [y]))) := by
  unfold appV
  unfold Cell at h
  simp only [h]
  rw [if_pos z]
theorem Cell.new (m : Store) (xs : List D) : Cell (m ++ [some xs]) m.length xs := by
  unfold Cell
  rw [List.getElem?_append_right (Nat.le_refl _)]
  simp
theorem Cell.app (h : Cell m i xs) (l : Store) : Cell (m ++ l) i xs := by
  have := h.lt
  unfold Cell at h ⊢
  rw [List.getElem?_append_left this]
  exact h
theorem Cell.set (h : Cell m i xs) (ys : List D) : Cell (m.set i (some ys)) i ys := by
  unfold Cell
  rw [List.getElem?_set_self h.lt]
theorem Cell.set_ne (h : Cell m i xs) (z : Option (List D)) (n : j ≠ i) : Cell (m.set j z) i xs := by
  unfold Cell at h ⊢
  rw [List.getElem?_set_ne n]
  exact h
theorem Cell.rd1 (h : Cell m i xs) (f : D → Option D) : rd1 m (.p i) f = (f (.list xs)).map fun z => (.d z, m) := by
  unfold Mu.rd1
  rw [h.deref]
  rfl
theorem Cell.rdl (h : Cell m i xs) (y : D) (f : D → D → Option D) : rd2 m (.p i) (.d y) f = (f (.list xs) y).map fun z => (.d z, m) := by
  unfold rd2
  rw [h.deref]
  rfl
theorem Cell.rdr (h : Cell m i xs) (y : D) (f : D → D → Option D) : rd2 m (.d y) (.p i) f = (f y (.list xs)).map fun z => (.d z, m) := by
  unfold rd2
  rw [h.deref]
  rfl
/-- the cells of before are as they were -/
def Up (μ m : Store) : Prop := μ.length ≤ m.length ∧ m.take μ.length = μ
theorem Up.refl (μ : Store) : Up μ μ := ⟨Nat.le_refl _, List.take_length ..⟩
theorem Up.app (h : Up μ m) (l : Store) : Up μ (m ++ l) := by
  refine ⟨by simp; have := h.1; omega, ?_⟩
  rw [List.take_append_of_le_length h.1]
  exact h.2
theorem Up.set (h : Up μ m) (z : Option (List D)) (hi : μ.length ≤ i) : Up μ (m.set i z) := by
  refine ⟨by simpa using h.1, ?_⟩
  rw [List.take_set_of_le hi]
  exact h.2
theorem Up.endD (h : Up μ m) (x : D) : endD μ (.d x) m = some (.d x, μ) := endD_d' x h.2 h.1
theorem Up.cell (h : Up μ m) (c : Cell μ i xs) : Cell m i xs := by
  have hl := c.lt
  unfold Cell at c ⊢
  rw [← h.2, List.getElem?_take, if_pos hl] at c
  exact c
end

/-! ### what can be told apart -/
structure Apart {α : Type} (f : α → D) : Prop where
  eq : ∀ x y, PyData.eqv (f x) (f y) = true ↔ x = y
  one : ∀ x, (f x).canLay0 = true
  dp : ∀ x, (f x).depth ≤ 60
section
variable {α : Type} {f : α → D}
theorem Apart.shp (h : Apart f) (x : α) : shp (f x) = true := shp_of (h.one x) (by have := h.dp x; omega)
theorem Apart.lay (h : Apart f) : ∀ xs : List α, PyData.canLayAll0 (xs.map f) = true
  | [] => by simp [PyData.canLayAll0]
  | x :: xs => by simp [PyData.canLayAll0, h.one x, h.lay xs]
theorem Apart.dps (h : Apart f) : ∀ xs : List α, PyData.depthAll (xs.map f) ≤ 60
  | [] => by simp [PyData.depthAll]
  | x :: xs => by
    have := h.dp x
    have := h.dps xs
    simp only [List.map_cons, PyData.depthAll]
    omega
theorem Apart.shl (h : Apart f) (xs : List α) : Mu.shp (.list (xs.map f)) = true := shp_of (by simp [PyData.canLay0, h.lay]) (by have := h.dps xs; simp only [PyData.depth]; omega)
theorem Apart.sht (h : Apart f) (xs : List α) : Mu.shp (.tuple (xs.map f)) = true := shp_of (by simp [PyData.canLay0, h.lay]) (by have := h.dps xs; simp only [PyData.depth]; omega)
theorem Apart.any (h : Apart f) (y : α) (xs : List α) [Decidable (y ∈ xs)] : ((xs.map f).any fun z => PyData.eqv z (f y)) = decide (y ∈ xs) := by
  rw [Bool.eq_iff_iff, decide_eq_true_iff, List.any_eq_true]
  constructor
  · rintro ⟨z, hz, e⟩
    obtain ⟨x, hx, rfl⟩ := List.mem_map.mp hz
    rw [← (h.eq x y).mp e]; exact hx
  · intro hy
    exact ⟨f y, List.mem_map.mpr ⟨y, hy, rfl⟩, (h.eq y y).mpr rfl⟩
theorem Apart.inL (h : Apart f) (y : α) (xs : List α) [Decidable (y ∈ xs)] : cmpD .inn (f y) (.list (xs.map f)) = some (.bool (decide (y ∈ xs))) := by
  simp only [cmpD, h.shp, h.shl, and_self, if_true, h.any]
theorem Apart.ninL (h : Apart f) (y : α) (xs : List α) [Decidable (y ∈ xs)] : cmpD .nin (f y) (.list (xs.map f)) = some (.bool (!decide (y ∈ xs))) := by
  simp only [cmpD, h.shp, h.shl, and_self, if_true, h.any]
theorem Apart.inT (h : Apart f) (y : α) (xs : List α) [Decidable (y ∈ xs)] : cmpD .inn (f y) (.tuple (xs.map f)) = some (.bool (decide (y ∈ xs))) := by
  simp only [cmpD, h.shp, h.sht, and_self, if_true, h.any]
theorem Apart.ninT (h : Apart f) (y : α) (xs : List α) [Decidable (y ∈ xs)] : cmpD .nin (f y) (.tuple (xs.map f)) = some (.bool (!decide (y ∈ xs))) := by
  simp only [cmpD, h.shp, h.sht, and_self, if_true, h.any]
theorem Apart.find [BEq α] [LawfulBEq α] (h : Apart f) (y : α) : ∀ (xs : List α), y ∈ xs → ((xs.map f).findIdx? fun z => PyData.eqv z (f y)) = some (xs.idxOf y)
  | [], q => by cases q
  | x :: xs, q => by
    rw [List.map_cons, List.findIdx?_cons]
    cases hb : (x == y) with
    | true =>
      have e : x = y := eq_of_beq hb
      have e2 := (h.eq x y).mpr e
      simp [e2, List.idxOf_cons, hb]
    | false =>
      have e : ¬ x = y := fun e => by subst e; simp at hb
      have e2 : PyData.eqv (f x) (f y) = false := by
        cases q2 : PyData.eqv (f x) (f y) with
        | false => rfl
        | true => exact absurd ((h.eq x y).mp q2) e
      have q' : y ∈ xs := by
        rcases List.mem_cons.mp q with r | r
        · exact absurd r.symm e
        · exact r
      rw [h.find y xs q']
      simp [e2, List.idxOf_cons, hb]
theorem Apart.ix [BEq α] [LawfulBEq α] (h : Apart f) {y : α} {xs : List α} (q : y ∈ xs) : ixofD (.list (xs.map f)) (f y) = some (.int (xs.idxOf y : Nat)) := by
  simp only [ixofD, h.shp, h.shl, and_self, if_true, h.find y xs q, Option.map_some]
theorem Apart.eqD (h : Apart f) (x y : α) [Decidable (x = y)] (hs : strEq (f x) (f y) = none) : eqD (f x) (f y) = some (decide (x = y)) := by
  rw [eqD_of hs (h.shp x) (h.shp y)]
  congr 1
  rw [Bool.eq_iff_iff, decide_eq_true_iff, h.eq]
end
def nI (n : Nat) : D := .int n
def nd (f : List Nat) : D := .tuple (f.map nI)
def np (p : Nat × Nat) : D := .tuple [nI p.1, nI p.2]
theorem eqv_nI (i j : Nat) : PyData.eqv (nI i) (nI j) = decide (i = j) := by
  unfold nI
  rw [eqv_int]
  by_cases h : i = j
  · simp [h]
  · have : ¬ (i : Int) = j := by omega
    simp [h, this]
theorem eqvAll_nI : ∀ f g : List Nat, PyData.eqvAll (f.map nI) (g.map nI) = decide (f = g)
  | [], [] => by simp [PyData.eqvAll]
  | [], y :: g => by simp [PyData.eqvAll]
  | x :: f, [] => by simp [PyData.eqvAll]
  | x :: f, y :: g => by
    simp only [List.map_cons, PyData.eqvAll, eqv_nI, eqvAll_nI f g]
    by_cases h : x = y <;> by_cases h2 : f = g <;> simp [h, h2]
theorem ap_nI : Apart nI := ⟨fun i j => by rw [eqv_nI, decide_eq_true_iff], fun _ => rfl, fun _ => Nat.zero_le _⟩
theorem ap_nd : Apart nd := ⟨fun f g => by simp only [nd, PyData.eqv, eqvAll_nI, decide_eq_true_iff], fun f => by simp only [nd, PyData.canLay0]; exact ap_nI.lay f, fun f => by
  simp only [nd, PyData.depth]
  have : PyData.depthAll (f.map nI) = 0 := by
    induction f with
    | nil => simp [PyData.depthAll]
    | cons x f ih => simp [PyData.depthAll, ih, nI, PyData.depth]
  omega⟩
theorem ap_np : Apart np := by
  have e : ∀ p : Nat × Nat, np p = nd [p.1, p.2] := fun _ => rfl
  refine ⟨fun p q => ?_, fun p => by rw [e]; exact ap_nd.one _, fun p => by rw [e]; exact ap_nd.dp _⟩
  rw [e, e, ap_nd.eq]
  obtain ⟨a, b⟩ := p
  obtain ⟨c, d⟩ := q
  by_cases h : a = c <;> by_cases h2 : b = d <;> simp [h, h2]
theorem at_map {α : Type} (f : α → D) {xs : List α} {k : Nat} (h : k < xs.length) : L2.atI (xs.map f) (k : Int) = some (f xs[k]) := by
  apply L2.atI_nat
  simp [List.getElem?_eq_getElem h]
theorem at_range (f : Nat → D) {n k : Nat} (h : k < n) : L2.atI ((List.range n).map f) (k : Int) = some (f k) := by
  rw [at_map f (by simpa using h)]
  simp
theorem at_last {α : Type} (f : α → D) (xs : List α) (x : α) : L2.atI ((xs ++ [x]).map f) (-1) = some (f x) := by
  rw [List.map_append]
  exact L2.atI_last (xs.map f) (f x)
theorem rng_nI (n : Nat) : rngD 0 n = (List.range n).map nI := rngD_nat n
theorem ints_nI (f : List Nat) : f.map nI = (f.map fun (n : Nat) => (n : Int)).map PyData.int := by
  rw [List.map_map]
  rfl
end Mu

/-! from the end backwards -/
namespace Mu
open PySem

structure OP {α : Type} (o : Option α) (Q : α → Prop) : Prop where
  ex : ∃ z, o = some z ∧ Q z
theorem op {α : Type} {o : Option α} {z : α} {Q : α → Prop} (h : o = some z) (q : Q z) : OP o Q := ⟨z, h, q⟩
structure WE (C : Cons) (F : Calls) (e : E) (ρ : Rho) (μ : Store) (Q : Val → Store → Prop) : Prop where
  ex : ∃ v m, evE C F e ρ μ = some (v, m) ∧ Q v m
structure WVs (C : Cons) (F : Calls) (e : Es) (ρ : Rho) (μ : Store) (Q : List Val → Store → Prop) : Prop where
  ex : ∃ v m, evVs C F e ρ μ = some (v, m) ∧ Q v m
structure WEs (C : Cons) (F : Calls) (e : Es) (ρ : Rho) (μ : Store) (Q : List D → Store → Prop) : Prop where
  ex : ∃ v m, evEs C F e ρ μ = some (v, m) ∧ Q v m
structure WT (C : Cons) (F : Calls) (e : E) (ρ : Rho) (μ : Store) (Q : Bool → Store → Prop) : Prop where
  ex : ∃ v m, toT (evE C F e ρ μ) = some (v, m) ∧ Q v m
structure WB (C : Cons) (F : Calls) (e : E) (ρ : Rho) (μ : Store) (Q : Bool → Store → Prop) : Prop where
  ex : ∃ v m, toB (evE C F e ρ μ) = some (v, m) ∧ Q v m
structure WI (C : Cons) (F : Calls) (e : E) (ρ : Rho) (μ : Store) (Q : Int → Store → Prop) : Prop where
  ex : ∃ v m, toI (evE C F e ρ μ) = some (v, m) ∧ Q v m
structure WF (C : Cons) (F : Calls) (e : E) (ρ : Rho) (μ : Store) (Q : D → Store → Prop) : Prop where
  ex : ∃ v m, toF (evE C F e ρ μ) = some (v, m) ∧ Q v m
structure WO (C : Cons) (F : Calls) (e : Oe) (ρ : Rho) (μ : Store) (Q : Option Int → Store → Prop) : Prop where
  ex : ∃ v m, evO C F e ρ μ = some (v, m) ∧ Q v m
structure WAnd (C : Cons) (F : Calls) (e : Es) (ρ : Rho) (μ : Store) (Q : Bool → Store → Prop) : Prop where
  ex : ∃ v m, evAnd C F e ρ μ = some (v, m) ∧ Q v m
structure WOr (C : Cons) (F : Calls) (e : Es) (ρ : Rho) (μ : Store) (Q : Bool → Store → Prop) : Prop where
  ex : ∃ v m, evOr C F e ρ μ = some (v, m) ∧ Q v m
structure WCs (C : Cons) (F : Calls) (e : Es) (ρ : Rho) (μ : Store) (Q : Bool → Store → Prop) : Prop where
  ex : ∃ v m, evCs C F e ρ μ = some (v, m) ∧ Q v m
structure WIt (C : Cons) (F : Calls) (e : It) (ρ : Rho) (μ : Store) (Q : List D → Val → Store → Prop) : Prop where
  ex : ∃ xs v m, evI C F e ρ μ = some ((xs, v), m) ∧ Q xs v m
structure WS (C : Cons) (F : Calls) (s : S) (ρ : Rho) (μ : Store) (Q : Flow → Rho → Store → Prop) : Prop where
  ex : ∃ f ρ' m, evS C F s ρ μ = some (f, ρ', m) ∧ Q f ρ' m
structure WSs (C : Cons) (F : Calls) (s : List S) (ρ : Rho) (μ : Store) (Q : Flow → Rho → Store → Prop) : Prop where
  ex : ∃ f ρ' m, evSs C F s ρ μ = some (f, ρ', m) ∧ Q f ρ' m
structure CL (F : Calls) (f : Nat) (vs : List Val) (μ : Store) (Q : Val → Store → Prop) : Prop where
  ex : ∃ v m, F f vs μ = some (v, m) ∧ Q v m
structure R2 (m : Store) (v w : Val) (f : D → D → Option D) (Q : Val → Store → Prop) : Prop where
  ex : ∃ z, rd2 m v w f = some (.d z, m) ∧ Q (.d z) m
structure R1 (m : Store) (v : Val) (f : D → Option D) (Q : Val → Store → Prop) : Prop where
  ex : ∃ z, rd1 m v f = some (.d z, m) ∧ Q (.d z) m
structure TR (m : Store) (v : Val) (Q : Bool → Store → Prop) : Prop where
  ex : ∃ b m', toT (some (v, m)) = some (b, m') ∧ Q b m'
structure BR (m : Store) (v : Val) (Q : Bool → Store → Prop) : Prop where
  ex : ∃ b m', toB (some (v, m)) = some (b, m') ∧ Q b m'
structure IR (m : Store) (v : Val) (Q : Int → Store → Prop) : Prop where
  ex : ∃ b m', toI (some (v, m)) = some (b, m') ∧ Q b m'
structure ITR (m : Store) (v : Val) (Q : List D → Val → Store → Prop) : Prop where
  ex : ∃ xs w m2, (deref m v).bind (itD v m) = some ((xs, w), m2) ∧ Q xs w m2
structure BDP (m : Store) (v : Val) (q : Prop) : Prop where
  ex : bdV m v = true ∧ q
structure RGP (a b : Int) (q : Prop) : Prop where
  ex : rngOk a b = true ∧ q
structure AUP (o : BOp) (x y z : Int) (q : Prop) : Prop where
  ex : bopD o (.int x) (.int y) = some (.int z) ∧ q
theorem bd_d {m : Store} {x : D} {q : Prop} (h : q) : BDP m (.d x) q := ⟨rfl, h⟩
theorem bd_c {m : Store} {j : Nat} {e : List Val} {q : Prop} (h : q) : BDP m (.c j e) q := ⟨rfl, h⟩
theorem bd_p {m : Store} {i : Nat} {xs : List D} {q : Prop} (c : Cell m i xs) (h : q) : BDP m (.p i) q := ⟨c.bd, h⟩
theorem rgp {n : Nat} {q : Prop} (h : n ≤ 100000) (z : q) : RGP 0 (n : Int) q := ⟨by
  have big : (100000 : Nat) ≤ sizeLine := by decide
  exact rngOk_small (by omega) (by omega) (by omega) (by omega), z⟩
theorem rgp2 {a n : Nat} {q : Prop} (h : n ≤ 100000) (ha : a ≤ 100000) (z : q) : RGP (a : Int) (n : Int) q := ⟨by
  have big : (100000 : Nat) ≤ sizeLine := by decide
  exact rngOk_small (by omega) (by omega) (by omega) (by omega), z⟩
theorem aup_add {x y : Int} {q : Prop} (h : q) : AUP .add x y (x + y) q := ⟨rfl, h⟩
theorem aup_sub {x y : Int} {q : Prop} (h : q) : AUP .sub x y (x - y) q := ⟨rfl, h⟩
theorem if_t {A B : Prop} (a : A) : (true = true → A) ∧ (true = false → B) := ⟨fun _ => a, fun h => nomatch h⟩
theorem if_f {A B : Prop} (b : B) : (false = true → A) ∧ (false = false → B) := ⟨fun h => (nomatch h), fun _ => b⟩
theorem if_ht {k : Bool} {A B : Prop} (h : k = true) (a : A) : (k = true → A) ∧ (k = false → B) := ⟨fun _ => a, fun h2 => absurd (h.symm.trans h2) (by simp)⟩
theorem if_hf {k : Bool} {A B : Prop} (h : k = false) (b : B) : (k = true → A) ∧ (k = false → B) := ⟨fun h2 => absurd (h.symm.trans h2) (by simp), fun _ => b⟩
structure FR (m : Store) (v : Val) (Q : D → Store → Prop) : Prop where
  ex : ∃ b m', toF (some (v, m)) = some (b, m') ∧ Q b m'

section
variable {C : Cons} {F : Calls} {ρ : Rho} {μ : Store} {Q : Val → Store → Prop} {B : Bool → Store → Prop} {P : Flow → Rho → Store → Prop}
/-! ### ends -/
theorem r2 {m : Store} {x y z : D} {f : D → D → Option D} (h : f x y = some z) (q : Q (.d z) m) : R2 m (.d x) (.d y) f Q := ⟨z, by simp only [rd2, deref, Option.bind_some, h, Option.map_some], q⟩
theorem r2p {m : Store} {i : Nat} {xs : List D} {y z : D} {f : D → D → Option D} (c : Cell m i xs) (h : f (.list xs) y = some z) (q : Q (.d z) m) : R2 m (.p i) (.d y) f Q := ⟨z, by rw [c.rdl, h]; rfl, q⟩
theorem r2q {m : Store} {i : Nat} {xs : List D} {y z : D} {f : D → D → Option D} (c : Cell m i xs) (h : f y (.list xs) = some z) (q : Q (.d z) m) : R2 m (.d y) (.p i) f Q := ⟨z, by rw [c.rdr, h]; rfl, q⟩
theorem r1 {m : Store} {x z : D} {f : D → Option D} (h : f x = some z) (q : Q (.d z) m) : R1 m (.d x) f Q := ⟨z, by simp only [rd1, deref, Option.bind_some, h, Option.map_some], q⟩
theorem r1i {m : Store} {x : D} {c : Cls} (q : Q (.d (.bool (isiD x c))) m) : R1 m (.d x) (fun x => some (.bool (isiD x c))) Q := r1 rfl q
theorem r1p {m : Store} {i : Nat} {xs : List D} {z : D} {f : D → Option D} (c : Cell m i xs) (h : f (.list xs) = some z) (q : Q (.d z) m) : R1 m (.p i) f Q := ⟨z, by rw [c.rd1, h]; rfl, q⟩
theorem tr_b {m : Store} {b : Bool} (q : B b m) : TR m (.d (.bool b)) B := ⟨b, m, rfl, q⟩
theorem tr_i {m : Store} {i : Int} (q : B (i != 0) m) : TR m (.d (.int i)) B := ⟨_, m, rfl, q⟩
theorem br_b {m : Store} {b : Bool} (q : B b m) : BR m (.d (.bool b)) B := ⟨b, m, rfl, q⟩
theorem ir_i {m : Store} {i : Int} {Q : Int → Store → Prop} (q : Q i m) : IR m (.d (.int i)) Q := ⟨i, m, rfl, q⟩
theorem fr_d {m : Store} {x : D} {Q : D → Store → Prop} (q : Q x m) : FR m (.d x) Q := ⟨x, m, rfl, q⟩
theorem fr_p {m : Store} {i : Nat} {xs : List D} {Q : D → Store → Prop} (c : Cell m i xs) (q : Q (.list xs) (m.set i none)) : FR m (.p i) Q := ⟨.list xs, m.set i none, by
  unfold Cell at c
  simp only [toF, Option.bind_some, frzV, c], q⟩
/-! ### calls -/
theorem cl {f : Nat} {vs : List Val} {m m' : Store} {v : Val} (h : F f vs m = some (v, m')) (q : Q v m') : CL F f vs m Q := ⟨v, m', h, q⟩
theorem cl_mono {f : Nat} {vs : List Val} {m : Store} {Q' : Val → Store → Prop} (h : CL F f vs m Q') (q : ∀ v m', Q' v m' → Q v m') : CL F f vs m Q := let ⟨v, m', e, h⟩ := h; ⟨v, m', e, q v m' h⟩
/-! ### expressions -/
theorem we {e : E} {v : Val} {m : Store} (h : evE C F e ρ μ = some (v, m)) (q : Q v m) : WE C F e ρ μ Q := ⟨v, m, h, q⟩
theorem we_mono {e : E} {Q' : Val → Store → Prop} (h : WE C F e ρ μ Q') (q : ∀ v m, Q' v m → Q v m) : WE C F e ρ μ Q := let ⟨v, m', e, h⟩ := h; ⟨v, m', e, q v m' h⟩
theorem we_var {i : Nat} {v : Val} (h : ρ[i]? = some (some v)) (q : Q v μ) : WE C F (.var i) ρ μ Q := ⟨v, μ, by simp only [evE, h], q⟩
theorem we_non (q : Q (.d .none) μ) : WE C F .non ρ μ Q := ⟨_, _, by simp only [evE], q⟩
theorem we_bl {b : Bool} (q : Q (.d (.bool b)) μ) : WE C F (.bl b) ρ μ Q := ⟨_, _, by simp only [evE], q⟩
theorem we_int {i : Int} (q : Q (.d (.int i)) μ) : WE C F (.int i) ρ μ Q := ⟨_, _, by simp only [evE], q⟩
theorem we_str {s : String} (q : Q (.d (.str s)) μ) : WE C F (.str s) ρ μ Q := ⟨_, _, by simp only [evE], q⟩
theorem we_con {x : String} {n : Nat} {d : D} (h : C n = some d) (q : Q (.d d) μ) : WE C F (.con x n) ρ μ Q := ⟨_, _, by simp only [evE, h, Option.map_some], q⟩
theorem we_lam {j : Nat} {js : List Nat} (q : Q (.o j js) μ) : WE C F (.lam j js) ρ μ Q := ⟨_, _, by simp only [evE], q⟩
theorem we_tup {es : Es} (h : WEs C F es ρ μ fun xs m => Q (.d (.tuple xs)) m) : WE C F (.tup es) ρ μ Q := let ⟨xs, m, e, q⟩ := h; ⟨_, _, by simp only [evE, e, Option.bind_some], q⟩
theorem we_lst {es : Es} (h : WEs C F es ρ μ fun xs m => Q (.d (.list xs)) m) : WE C F (.lst es) ρ μ Q := let ⟨xs, m, e, q⟩ := h; ⟨_, _, by simp only [evE, e, Option.bind_some], q⟩
theorem we_bop {o : BOp} {a b : E} (h : WE C F a ρ μ fun v m => WE C F b ρ m fun w m2 => R2 m2 v w (bopD o) Q) : WE C F (.bop o a b) ρ μ Q :=
  let ⟨v, m, e, v2, m2, e2, z, e3, q⟩ := h; ⟨_, _, by simp only [evE, e, e2, e3, Option.bind_some], q⟩
theorem we_cmp {o : COp} {a b : E} (h : WE C F a ρ μ fun v m => WE C F b ρ m fun w m2 => R2 m2 v w (cmpD o) Q) : WE C F (.cmp o a b) ρ μ Q :=
  let ⟨v, m, e, v2, m2, e2, z, e3, q⟩ := h; ⟨_, _, by simp only [evE, e, e2, e3, Option.bind_some], q⟩
theorem we_idx {a b : E} (h : WE C F a ρ μ fun v m => WE C F b ρ m fun w m2 => R2 m2 v w idxD Q) : WE C F (.idx a b) ρ μ Q :=
  let ⟨v, m, e, v2, m2, e2, z, e3, q⟩ := h; ⟨_, _, by simp only [evE, e, e2, e3, Option.bind_some], q⟩
theorem we_neg {a : E} (h : WI C F a ρ μ fun i m => Q (.d (.int (-i))) m) : WE C F (.neg a) ρ μ Q := let ⟨_, _, e, q⟩ := h; ⟨_, _, by simp only [evE, e, Option.bind_some], q⟩
theorem we_inot {a : E} (h : WT C F a ρ μ fun b m => Q (.d (.bool (!b))) m) : WE C F (.inot a) ρ μ Q := let ⟨_, _, e, q⟩ := h; ⟨_, _, by simp only [evE, e, Option.bind_some], q⟩
theorem we_isN {a : E} (h : WE C F a ρ μ fun v m => Q (.d (.bool (noneV v))) m) : WE C F (.isN a) ρ μ Q := let ⟨_, _, e, q⟩ := h; ⟨_, _, by simp only [evE, e, Option.bind_some], q⟩
theorem we_notN {a : E} (h : WE C F a ρ μ fun v m => Q (.d (.bool (!noneV v))) m) : WE C F (.notN a) ρ μ Q := let ⟨_, _, e, q⟩ := h; ⟨_, _, by simp only [evE, e, Option.bind_some], q⟩
theorem we_isT {k n : Bool} {a : E} (h : WB C F a ρ μ fun b m => Q (.d (.bool (n ^^ decide (b = k)))) m) : WE C F (.isT k n a) ρ μ Q := let ⟨_, _, e, q⟩ := h; ⟨_, _, by simp only [evE, e, Option.bind_some], q⟩
theorem we_band {es : Es} (h : WAnd C F es ρ μ fun b m => Q (.d (.bool b)) m) : WE C F (.band es) ρ μ Q := let ⟨_, _, e, q⟩ := h; ⟨_, _, by simp only [evE, e, Option.map_some], q⟩
theorem we_bor {es : Es} (h : WOr C F es ρ μ fun b m => Q (.d (.bool b)) m) : WE C F (.bor es) ρ μ Q := let ⟨_, _, e, q⟩ := h; ⟨_, _, by simp only [evE, e, Option.map_some], q⟩
theorem we_ite {c a b : E} (h : WT C F c ρ μ fun k m => (k = true → WE C F a ρ m Q) ∧ (k = false → WE C F b ρ m Q)) : WE C F (.ite c a b) ρ μ Q := by
  obtain ⟨k, m, e, q1, q2⟩ := h
  cases k with
  | true => obtain ⟨v, m2, e2, q⟩ := q1 rfl; exact ⟨v, m2, by simp only [evE, e, Option.bind_some, if_true, e2], q⟩
  | false => obtain ⟨v, m2, e2, q⟩ := q2 rfl; exact ⟨v, m2, by simp only [evE, e, Option.bind_some, Bool.false_eq_true, if_false, e2], q⟩
theorem we_chn {o p : COp} {a b c : E} (h : WE C F a ρ μ fun v m => WE C F b ρ m fun w m2 => R2 m2 v w (cmpD o) fun k m3 => BR m3 k fun k m3 => (k = true → WE C F c ρ m3 fun u m4 => R2 m4 w u (cmpD p) Q) ∧ (k = false → Q (.d (.bool false)) m3)) : WE C F (.chn o p a b c) ρ μ Q := by
  obtain ⟨v, m, e, w, m2, e2, z, e3, k, m3, e4, q1, q2⟩ := h
  cases k with
  | true => obtain ⟨u, m4, e5, y, e6, q⟩ := q1 rfl; exact ⟨_, _, by simp only [evE, e, e2, e3, e4, e5, e6, Option.bind_some, if_true], q⟩
  | false => exact ⟨_, _, by simp only [evE, e, e2, e3, e4, Option.bind_some, Bool.false_eq_true, if_false], q2 rfl⟩
theorem we_sli {a : E} {lo hi : Oe} (h : WE C F a ρ μ fun v m => WO C F lo ρ m fun l m2 => WO C F hi ρ m2 fun r m3 => R1 m3 v (fun x => sliD x l r) Q) : WE C F (.sli a lo hi) ρ μ Q :=
  let ⟨_, _, e, _, _, e2, _, _, e3, _, e4, q⟩ := h; ⟨_, _, by simp only [evE, e, e2, e3, e4, Option.bind_some], q⟩
theorem we_isi {a : E} {c : Cls} (h : WE C F a ρ μ fun v m => R1 m v (fun x => some (.bool (isiD x c))) Q) : WE C F (.isi a c) ρ μ Q := let ⟨_, _, e, _, e2, q⟩ := h; ⟨_, _, by simp only [evE, e, e2, Option.bind_some], q⟩
theorem we_bi {b : BI} {a : E} (h : WE C F a ρ μ fun v m => R1 m v (biD b) Q) : WE C F (.bi b a) ρ μ Q := let ⟨_, _, e, _, e2, q⟩ := h; ⟨_, _, by simp only [evE, e, e2, Option.bind_some], q⟩
theorem we_sset {a : E} (h : WE C F a ρ μ fun v m => R1 m v ssetD Q) : WE C F (.sset a) ρ μ Q := let ⟨_, _, e, _, e2, q⟩ := h; ⟨_, _, by simp only [evE, e, e2, Option.bind_some], q⟩
theorem we_srt {a : E} (h : WE C F a ρ μ fun v m => R1 m v srtD Q) : WE C F (.srt a) ρ μ Q := let ⟨_, _, e, _, e2, q⟩ := h; ⟨_, _, by simp only [evE, e, e2, Option.bind_some], q⟩
theorem we_trv {a : E} (h : WE C F a ρ μ fun v m => R1 m v trvD Q) : WE C F (.trv a) ρ μ Q := let ⟨_, _, e, _, e2, q⟩ := h; ⟨_, _, by simp only [evE, e, e2, Option.bind_some], q⟩
theorem we_lrv {a : E} (h : WE C F a ρ μ fun v m => R1 m v lrvD Q) : WE C F (.lrv a) ρ μ Q := let ⟨_, _, e, _, e2, q⟩ := h; ⟨_, _, by simp only [evE, e, e2, Option.bind_some], q⟩
theorem we_lset {a : E} (h : WE C F a ρ μ fun v m => R1 m v lsetD Q) : WE C F (.lset a) ρ μ Q := let ⟨_, _, e, _, e2, q⟩ := h; ⟨_, _, by simp only [evE, e, e2, Option.bind_some], q⟩
theorem we_mm2 {t : Bool} {a b : E} (h : WE C F a ρ μ fun v m => WE C F b ρ m fun w m2 => R2 m2 v w (mmD t) Q) : WE C F (.mm2 t a b) ρ μ Q :=
  let ⟨_, _, e, _, _, e2, _, e3, q⟩ := h; ⟨_, _, by simp only [evE, e, e2, e3, Option.bind_some], q⟩
theorem we_ixof {a b : E} (h : WE C F a ρ μ fun v m => OP (deref m v) fun _ => WE C F b ρ m fun w m2 => R2 m2 v w ixofD Q) : WE C F (.ixof a b) ρ μ Q :=
  let ⟨_, _, e, _, e0, _, _, e2, _, e3, q⟩ := h; ⟨_, _, by simp only [evE, e, e0, e2, e3, Option.bind_some], q⟩
theorem we_pop {a b : E} (h : WE C F a ρ μ fun v m => OP (deref m v) fun _ => WI C F b ρ m fun k m2 => OP (popV m2 v k) fun r => Q r.1 r.2) : WE C F (.pop a b) ρ μ Q :=
  let ⟨_, _, e, _, e0, _, _, e2, _, e3, q⟩ := h; ⟨_, _, by simp only [evE, e, e0, e2, e3, Option.bind_some], q⟩
theorem we_rgL2 {a e : E} (h : WI C F a ρ μ fun n m => WI C F e ρ m fun n2 m2 => RGP n n2 (Q (.d (.list (rngD n n2))) m2)) : WE C F (.rgL2 a e) ρ μ Q := let ⟨_, _, e, _, _, e2, r, q⟩ := h; ⟨_, _, by simp only [evE, e, e2, Option.bind_some, r, if_true], q⟩
theorem we_rgL {e : E} (h : WI C F e ρ μ fun n m => RGP 0 n (Q (.d (.list (rngD 0 n))) m)) : WE C F (.rgL e) ρ μ Q := let ⟨_, _, e, r, q⟩ := h; ⟨_, _, by simp only [evE, e, Option.bind_some, r, if_true], q⟩
theorem we_rgT {e : E} (h : WI C F e ρ μ fun n m => RGP 0 n (Q (.d (.tuple (rngD 0 n))) m)) : WE C F (.rgT e) ρ μ Q := let ⟨_, _, e, r, q⟩ := h; ⟨_, _, by simp only [evE, e, Option.bind_some, r, if_true], q⟩
theorem we_call {f : Nat} {es : Es} (h : WVs C F es ρ μ fun vs m => CL F f vs m Q) : WE C F (.call f es) ρ μ Q := let ⟨_, _, e, _, _, e2, q⟩ := h; ⟨_, _, by simp only [evE, e, e2, Option.bind_some], q⟩
theorem we_callM {f : Nat} {es : Es} (h : WVs C F es ρ μ fun vs m => CL F (mB + f) vs m fun v m' => (∃ xs, v = .d (.list xs)) ∧ Q v m') : WE C F (.callM f es) ρ μ Q :=
  let ⟨_, _, e, _, _, e2, ⟨_, e3⟩, q⟩ := h; ⟨_, _, by subst e3; simp only [evE, e, e2, Option.bind_some, newL], q⟩
theorem we_callC {f : Nat} {es : Es} (h : WVs C F es ρ μ fun vs m => OP (cloVs ρ vs) fun ws => CL F f ws m fun v m' => plainV v = true ∧ Q v m') : WE C F (.callC f es) ρ μ Q :=
  let ⟨_, _, e, _, e1, _, _, e2, e3, q⟩ := h; ⟨_, _, by simp only [evE, e, e1, e2, e3, Option.bind_some, if_true], q⟩
theorem we_callV {i j : Nat} {env : List Val} {es : Es} (hi : ρ[i]? = some (some (.c j env))) (h : WVs C F es ρ μ fun vs m => vs.all plainV = true ∧ CL F j (vs ++ env) m Q) : WE C F (.callV i es) ρ μ Q :=
  let ⟨_, _, e, e1, _, _, e2, q⟩ := h; ⟨_, _, by simp only [evE, e, hi, e1, e2, Option.bind_some, if_true], q⟩
/-! ### readings -/
theorem wt {e : E} (h : WE C F e ρ μ fun v m => TR m v B) : WT C F e ρ μ B := let ⟨v, m, e, b, m', e2, q⟩ := h; ⟨b, m', by rw [e]; exact e2, q⟩
theorem wb {e : E} (h : WE C F e ρ μ fun v m => BR m v B) : WB C F e ρ μ B := let ⟨v, m, e, b, m', e2, q⟩ := h; ⟨b, m', by rw [e]; exact e2, q⟩
theorem wi {e : E} {Q : Int → Store → Prop} (h : WE C F e ρ μ fun v m => IR m v Q) : WI C F e ρ μ Q := let ⟨v, m, e, b, m', e2, q⟩ := h; ⟨b, m', by rw [e]; exact e2, q⟩
theorem wf {e : E} {Q : D → Store → Prop} (h : WE C F e ρ μ fun v m => FR m v Q) : WF C F e ρ μ Q := let ⟨v, m, e, b, m', e2, q⟩ := h; ⟨b, m', by rw [e]; exact e2, q⟩
theorem wo_no {Q : Option Int → Store → Prop} (q : Q none μ) : WO C F .no ρ μ Q := ⟨_, _, by simp only [evO], q⟩
theorem wo_so {e : E} {Q : Option Int → Store → Prop} (h : WI C F e ρ μ fun i m => Q (some i) m) : WO C F (.so e) ρ μ Q := let ⟨_, _, e, q⟩ := h; ⟨_, _, by simp only [evO, e, Option.bind_some], q⟩
theorem wvs_nil {Q : List Val → Store → Prop} (q : Q [] μ) : WVs C F .nil ρ μ Q := ⟨_, _, by simp only [evVs], q⟩
theorem wvs_cons {e : E} {es : Es} {Q : List Val → Store → Prop} (h : WE C F e ρ μ fun v m => WVs C F es ρ m fun vs m2 => Q (v :: vs) m2) : WVs C F (.cons e es) ρ μ Q :=
  let ⟨_, _, e, _, _, e2, q⟩ := h; ⟨_, _, by simp only [evVs, e, e2, Option.bind_some], q⟩
theorem wes_nil {Q : List D → Store → Prop} (q : Q [] μ) : WEs C F .nil ρ μ Q := ⟨_, _, by simp only [evEs], q⟩
theorem wes_cons {e : E} {es : Es} {Q : List D → Store → Prop} (h : WF C F e ρ μ fun v m => WEs C F es ρ m fun vs m2 => Q (v :: vs) m2) : WEs C F (.cons e es) ρ μ Q :=
  let ⟨_, _, e, _, _, e2, q⟩ := h; ⟨_, _, by simp only [evEs, e, e2, Option.bind_some], q⟩
theorem wand_one {e : E} (h : WB C F e ρ μ B) : WAnd C F (.cons e .nil) ρ μ B := let ⟨_, _, e, q⟩ := h; ⟨_, _, by simp only [evAnd, e], q⟩
theorem wand_two {e e' : E} {es : Es} (h : WB C F e ρ μ fun b m => (b = true → WAnd C F (.cons e' es) ρ m B) ∧ (b = false → B false m)) : WAnd C F (.cons e (.cons e' es)) ρ μ B := by
  obtain ⟨k, m, e, q1, q2⟩ := h
  cases k with
  | true => obtain ⟨v, m2, e2, q⟩ := q1 rfl; exact ⟨v, m2, by rw [evAnd_two, e]; simp only [Option.bind_some, if_true, e2], q⟩
  | false => exact ⟨_, _, by rw [evAnd_two, e]; simp only [Option.bind_some, Bool.false_eq_true, if_false], q2 rfl⟩
theorem wor_one {e : E} (h : WB C F e ρ μ B) : WOr C F (.cons e .nil) ρ μ B := let ⟨_, _, e, q⟩ := h; ⟨_, _, by simp only [evOr, e], q⟩
theorem wor_two {e e' : E} {es : Es} (h : WB C F e ρ μ fun b m => (b = true → B true m) ∧ (b = false → WOr C F (.cons e' es) ρ m B)) : WOr C F (.cons e (.cons e' es)) ρ μ B := by
  obtain ⟨k, m, e, q1, q2⟩ := h
  cases k with
  | false => obtain ⟨v, m2, e2, q⟩ := q2 rfl; exact ⟨v, m2, by rw [evOr_two, e]; simp only [Option.bind_some, Bool.false_eq_true, if_false, e2], q⟩
  | true => exact ⟨_, _, by rw [evOr_two, e]; simp only [Option.bind_some, if_true], q1 rfl⟩
/-- and / or of what changes nothing, the value at once -/
theorem wand_pure {e e' : E} {es : Es} {b1 b2 : Bool} (h1 : WB C F e ρ μ fun b m => b = b1 ∧ m = μ) (h2 : b1 = true → WAnd C F (.cons e' es) ρ μ fun b m => b = b2 ∧ m = μ) (q : B (b1 && b2) μ) : WAnd C F (.cons e (.cons e' es)) ρ μ B := by
  refine wand_two ?_
  obtain ⟨k, m, e, rfl, rfl⟩ := h1
  refine ⟨k, m, e, fun h => ?_, fun h => ?_⟩
  · subst h
    obtain ⟨k2, m2, e2, rfl, rfl⟩ := h2 rfl
    exact ⟨k2, m2, e2, by simpa using q⟩
  · subst h; simpa using q
theorem wor_pure {e e' : E} {es : Es} {b1 b2 : Bool} (h1 : WB C F e ρ μ fun b m => b = b1 ∧ m = μ) (h2 : b1 = false → WOr C F (.cons e' es) ρ μ fun b m => b = b2 ∧ m = μ) (q : B (b1 || b2) μ) : WOr C F (.cons e (.cons e' es)) ρ μ B := by
  refine wor_two ?_
  obtain ⟨k, m, e, rfl, rfl⟩ := h1
  refine ⟨k, m, e, fun h => ?_, fun h => ?_⟩
  · subst h; simpa using q
  · subst h
    obtain ⟨k2, m2, e2, rfl, rfl⟩ := h2 rfl
    exact ⟨k2, m2, e2, by simpa using q⟩
theorem wcs_nil (q : B true μ) : WCs C F .nil ρ μ B := ⟨_, _, by simp only [evCs], q⟩
theorem wcs_one {e : E} (h : WT C F e ρ μ B) : WCs C F (.cons e .nil) ρ μ B := let ⟨_, _, e, q⟩ := h; ⟨_, _, by simp only [evCs, e], q⟩
/-! ### what is walked -/
section
variable {Q : List D → Val → Store → Prop}
theorem wit_seq {e : E} (h : WE C F e ρ μ fun v m => ITR m v Q) : WIt C F (.seq e) ρ μ Q := by
  obtain ⟨v, m, e, xs, w, m2, e2, q⟩ := h
  exact ⟨xs, w, m2, by rw [evI_seq, e, Option.bind_some, e2], q⟩
theorem itr_l {m : Store} {xs : List D} (q : Q xs (.d (.list xs)) m) : ITR m (.d (.list xs)) Q := ⟨_, _, _, rfl, q⟩
theorem itr_t {m : Store} {xs : List D} (q : Q xs (.d (.tuple xs)) m) : ITR m (.d (.tuple xs)) Q := ⟨_, _, _, rfl, q⟩
theorem itr_p {m : Store} {i : Nat} {xs : List D} (c : Cell m i xs) (q : Q xs (.p i) m) : ITR m (.p i) Q := ⟨_, _, _, by rw [c.deref]; rfl, q⟩
theorem wit_rng {e : E} (h : WI C F e ρ μ fun n m => RGP 0 n (Q (rngD 0 n) (.d .none) m)) : WIt C F (.rng e) ρ μ Q := let ⟨_, _, e, r, q⟩ := h; ⟨_, _, _, by rw [evI_rng, e, Option.bind_some, if_pos r], q⟩
theorem wit_rng3 {e e' e'' : E} (h : WI C F e ρ μ fun a m => WI C F e' ρ m fun b m2 => WI C F e'' ρ m2 fun z m3 => z = -1 ∧ RGP b a (Q (rngB a b) (.d .none) m3)) : WIt C F (.rng3 e e' e'') ρ μ Q :=
  let ⟨_, _, e, _, _, e2, _, _, e3, z, r, q⟩ := h; ⟨_, _, _, by rw [evI_rng3, e, Option.bind_some, e2, Option.bind_some, e3, Option.bind_some, if_pos ⟨z, r⟩], q⟩
structure ZP (v w : Val) (m : Store) (Q : List D → Val → Store → Prop) : Prop where
  ex : ∃ xs, zipV v w = some xs ∧ Q xs (.d .none) m
theorem zp_t {xs ys : List D} {m : Store} (q : Q (zipD xs ys) (.d .none) m) : ZP (.d (.tuple xs)) (.d (.tuple ys)) m Q := ⟨_, rfl, q⟩
theorem wit_zip {e e' : E} (h : WE C F e ρ μ fun v m => WE C F e' ρ m fun w m2 => ZP v w m2 Q) : WIt C F (.zip e e') ρ μ Q :=
  let ⟨_, _, e, _, _, e2, xs, z, q⟩ := h; ⟨_, _, _, by simp only [evI, e, e2, z, Option.bind_some, Option.map_some], q⟩
theorem wit_enu {e : E} {xs : List D} (h : WE C F e ρ μ fun v m => v = .d (.tuple xs) ∧ Q (enuD xs) (.d .none) m) : WIt C F (.enu e) ρ μ Q := by
  obtain ⟨v, m, e, rfl, q⟩ := h
  exact ⟨_, _, _, by simp only [evI, e, enuV, Option.bind_some, Option.map_some], q⟩
theorem wit_rng2 {e e' : E} (h : WI C F e ρ μ fun a m => WI C F e' ρ m fun b m2 => RGP a b (Q (rngD a b) (.d .none) m2)) : WIt C F (.rng2 e e') ρ μ Q :=
  let ⟨_, _, e, _, _, e2, r, q⟩ := h; ⟨_, _, _, by rw [evI_rng2, e, Option.bind_some, e2, Option.bind_some, if_pos r], q⟩
end
/-! ### statements -/
/-- what comes then -/
def Ct (C : Cons) (F : Calls) (r : List S) (P : Flow → Rho → Store → Prop) : Flow → Rho → Store → Prop
  | .nx, ρ, m => WSs C F r ρ m P
  | f, ρ, m => P f ρ m
theorem wss_nil (q : P .nx ρ μ) : WSs C F [] ρ μ P := ⟨_, _, _, by simp only [evSs], q⟩
theorem wss_cons {s : S} {r : List S} (h : WS C F s ρ μ (Ct C F r P)) : WSs C F (s :: r) ρ μ P := by
  obtain ⟨f, ρ', m, e, q⟩ := h
  cases f with
  | nx => obtain ⟨f2, ρ2, m2, e2, q⟩ := q; exact ⟨f2, ρ2, m2, by rw [evSs_cons, e, Option.bind_some, nxt_nx, e2], q⟩
  | ret v => exact ⟨_, _, _, by rw [evSs_cons, e, Option.bind_some, nxt_ret], q⟩
  | bk => exact ⟨_, _, _, by rw [evSs_cons, e, Option.bind_some, nxt_bk], q⟩
  | ct => exact ⟨_, _, _, by rw [evSs_cons, e, Option.bind_some, nxt_ct], q⟩
  | xc j => exact ⟨_, _, _, by rw [evSs_cons, e, Option.bind_some, nxt_xc], q⟩
theorem ct_nx {r : List S} (h : WSs C F r ρ μ P) : Ct C F r P .nx ρ μ := h
theorem ct_ret {r : List S} {v : Val} (h : P (.ret v) ρ μ) : Ct C F r P (.ret v) ρ μ := h
theorem ct_bk {r : List S} (h : P .bk ρ μ) : Ct C F r P .bk ρ μ := h
theorem ct_ct {r : List S} (h : P .ct ρ μ) : Ct C F r P .ct ρ μ := h
theorem ct_xc {r : List S} {j : Nat} (h : P (.xc j) ρ μ) : Ct C F r P (.xc j) ρ μ := h
theorem ws {s : S} {f : Flow} {ρ' : Rho} {m : Store} (h : evS C F s ρ μ = some (f, ρ', m)) (q : P f ρ' m) : WS C F s ρ μ P := ⟨f, ρ', m, h, q⟩
theorem wss {s : List S} {f : Flow} {ρ' : Rho} {m : Store} (h : evSs C F s ρ μ = some (f, ρ', m)) (q : P f ρ' m) : WSs C F s ρ μ P := ⟨f, ρ', m, h, q⟩
theorem ws_mono {s : S} {P' : Flow → Rho → Store → Prop} (h : WS C F s ρ μ P') (q : ∀ f ρ m, P' f ρ m → P f ρ m) : WS C F s ρ μ P := let ⟨f, ρ', m, e, h⟩ := h; ⟨f, ρ', m, e, q _ _ _ h⟩
theorem wss_mono {s : List S} {P' : Flow → Rho → Store → Prop} (h : WSs C F s ρ μ P') (q : ∀ f ρ m, P' f ρ m → P f ρ m) : WSs C F s ρ μ P := let ⟨f, ρ', m, e, h⟩ := h; ⟨f, ρ', m, e, q _ _ _ h⟩
theorem ws_set {i : Nat} {e : E} (h : WE C F e ρ μ fun v m => BDP m v (P .nx (ρ.set i (some v)) m)) : WS C F (.set i e) ρ μ P := let ⟨_, _, e, b, q⟩ := h; ⟨_, _, _, by rw [evS_set, e, Option.bind_some, if_pos b], q⟩
theorem ws_setM {i : Nat} {e : E} (h : WE C F e ρ μ fun v m => ∃ xs, v = .d (.list xs) ∧ P .nx (ρ.set i (some (.p m.length))) (m ++ [some xs])) : WS C F (.setM i e) ρ μ P :=
  let ⟨_, _, e, _, e2, q⟩ := h; ⟨_, _, _, by subst e2; rw [evS_setM, e, Option.bind_some, mkM_list], q⟩
theorem ws_par {i j : Nat} {e d : E} (h : WE C F e ρ μ fun v m => WE C F d ρ m fun w m2 => BDP m2 v (BDP m2 w (P .nx ((ρ.set i (some v)).set j (some w)) m2))) : WS C F (.par i j e d) ρ μ P :=
  let ⟨_, _, e, _, _, e2, b, b2, q⟩ := h; ⟨_, _, _, by rw [evS_par, e, Option.bind_some, e2, Option.bind_some, if_pos ⟨b, b2⟩], q⟩
theorem ws_par3 {i j l : Nat} {e d g : E} (h : WE C F e ρ μ fun v m => WE C F d ρ m fun w m2 => WE C F g ρ m2 fun u m3 => BDP m3 v (BDP m3 w (BDP m3 u (P .nx (((ρ.set i (some v)).set j (some w)).set l (some u)) m3)))) : WS C F (.par3 i j l e d g) ρ μ P :=
  let ⟨_, _, e, _, _, e2, _, _, e3, b, b2, b3, q⟩ := h; ⟨_, _, _, by simp only [evS, e, Option.bind_some, e2, e3]; exact if_pos ⟨b, b2, b3⟩, q⟩
/-- o.extend(e), o a name of a cell, e a new list -/
theorem ws_ext {a c : Nat} {e : E} {xs0 : List D} (ha : ρ[a]? = some (some (.p c))) (hc : Cell μ c xs0) (h : WE C F e ρ μ fun v m => ∃ ys xs, v = .d (.list ys) ∧ Cell m c xs ∧ xs.length + ys.length ≤ sizeLine ∧ P .nx ρ (m.set c (some (xs ++ ys)))) : WS C F (.ext (.var a) e) ρ μ P := by
  obtain ⟨v, m, e1, ys, xs, rfl, h1, h2, q⟩ := h
  refine ⟨_, _, _, ?_, q⟩
  have e0 : evE C F (.var a) ρ μ = some (.p c, μ) := by simp only [evE, ha]
  have e2 : extV m (.p c) ys = some (m.set c (some (xs ++ ys))) := by
    unfold extV
    unfold Cell at h1
    simp only [h1]
    rw [if_pos h2]
  simp only [evS, e0, Option.bind_some, hc.deref, e1, lstV, e2, Option.map_some]
theorem ws_unp {is : List Nat} {e : E} (h : WE C F e ρ μ fun v m => ∃ x, v = .d x ∧ OP (tgS ρ (.tp is) x) fun ρ' => P .nx ρ' m) : WS C F (.unp is e) ρ μ P :=
  let ⟨_, _, e, _, e2, _, e3, q⟩ := h; ⟨_, _, _, by subst e2; simp only [evS, e, Option.bind_some, e3], q⟩
theorem ws_aug {i : Nat} {o : BOp} {e : E} {x z : Int} (hi : ρ[i]? = some (some (.d (.int x)))) (h : WI C F e ρ μ fun y m => AUP o x y z (P .nx (ρ.set i (some (.d (.int z)))) m)) : WS C F (.aug i o e) ρ μ P :=
  let ⟨_, _, e, e2, q⟩ := h; ⟨_, _, _, by simp only [evS, hi, e, Option.bind_some, e2], q⟩
theorem ws_augA {i : Nat} {e : E} {x : Int} (hi : ρ[i]? = some (some (.d (.int x)))) (h : WI C F e ρ μ fun y m => P .nx (ρ.set i (some (.d (.int (x + y))))) m) : WS C F (.aug i .add e) ρ μ P := let ⟨_, _, e, q⟩ := h; ⟨_, _, _, by simp only [evS, hi, e, Option.bind_some, bopD], q⟩
theorem ws_ret {e : E} (h : WE C F e ρ μ fun v m => P (.ret v) ρ m) : WS C F (.ret e) ρ μ P := let ⟨_, _, e, q⟩ := h; ⟨_, _, _, by rw [evS_ret, e, Option.bind_some], q⟩
theorem ws_retN (q : P (.ret (.d .none)) ρ μ) : WS C F .retN ρ μ P := ⟨_, _, _, by rw [evS_retN], q⟩
theorem ws_retM {e : E} (h : WE C F e ρ μ fun v m => ∃ xs, v = .d (.list xs) ∧ P (.ret (.p m.length)) ρ (m ++ [some xs])) : WS C F (.retM e) ρ μ P :=
  let ⟨_, _, e, _, e2, q⟩ := h; ⟨_, _, _, by subst e2; rw [evS_retM, e, Option.bind_some, reM_list], q⟩
theorem ws_brk (q : P .bk ρ μ) : WS C F .brk ρ μ P := ⟨_, _, _, by simp only [evS], q⟩
theorem ws_cnt (q : P .ct ρ μ) : WS C F .cnt ρ μ P := ⟨_, _, _, by simp only [evS], q⟩
theorem ws_pass (q : P .nx ρ μ) : WS C F .pass ρ μ P := ⟨_, _, _, by simp only [evS], q⟩
theorem ws_drop {e : E} (h : WE C F e ρ μ fun _ m => P .nx ρ m) : WS C F (.drop e) ρ μ P := let ⟨_, _, e, q⟩ := h; ⟨_, _, _, by simp only [evS, e, Option.bind_some], q⟩
theorem ws_ndef {i j : Nat} {js : List Nat} (q : P .nx (ρ.set i (some (.o j js))) μ) : WS C F (.ndef i j js) ρ μ P := ⟨_, _, _, by rw [evS_ndef], q⟩
theorem ws_ife {c : E} {a b : List S} (h : WT C F c ρ μ fun k m => (k = true → WSs C F a ρ m P) ∧ (k = false → WSs C F b ρ m P)) : WS C F (.ife c a b) ρ μ P := by
  obtain ⟨k, m, e, q1, q2⟩ := h
  cases k with
  | true => obtain ⟨f, ρ2, m2, e2, q⟩ := q1 rfl; exact ⟨_, _, _, by rw [evS_ife, e, Option.bind_some, if_pos rfl, e2], q⟩
  | false => obtain ⟨f, ρ2, m2, e2, q⟩ := q2 rfl; exact ⟨_, _, _, by rw [evS_ife, e, Option.bind_some, if_neg (by simp), e2], q⟩
/-- o.append(e), o a name of a cell -/
theorem ws_app {a c : Nat} {e : E} {xs0 : List D} (ha : ρ[a]? = some (some (.p c))) (hc : Cell μ c xs0) (h : WF C F e ρ μ fun y m => ∃ xs, Cell m c xs ∧ xs.length < sizeLine ∧ P .nx ρ (m.set c (some (xs ++ [y])))) : WS C F (.app (.var a) e) ρ μ P := by
  obtain ⟨y, m, e1, xs, h1, h2, q⟩ := h
  refine ⟨_, _, _, ?_, q⟩
  have e0 : evE C F (.var a) ρ μ = some (.p c, μ) := by simp only [evE, ha]
  simp only [evS_app, e0, Option.bind_some, hc.deref, e1, h1.ap y h2, Option.map_some]
theorem ws_put {a c : Nat} {ie e : E} (h : WF C F e ρ μ fun y m => ρ[a]? = some (some (.p c)) ∧ WI C F ie ρ m fun k m2 => OP (putV m2 (.p c) k y) fun m3 => P .nx ρ m3) : WS C F (.put (.var a) ie e) ρ μ P := by
  obtain ⟨y, m, e1, ha, k, m2, e2, m3, e3, q⟩ := h
  refine ⟨_, _, _, ?_, q⟩
  have e0 : evE C F (.var a) ρ m = some (.p c, m) := by simp only [evE, ha]
  simp only [evS_put, e1, Option.bind_some, e0, e2, e3, Option.map_some]
theorem ws_for {tg : Tg} {it : It} {b : List S} {w : D} (I : List D → Rho → Store → Prop) (h : WIt C F it ρ μ fun xs v m => v = .d w ∧ I xs ρ m)
    (step : ∀ x r ρ μ, I (x :: r) ρ μ → OP (tgS ρ tg x) fun ρ1 => WSs C F b ρ1 μ (endsB (I r) P)) (fin : ∀ ρ μ, I [] ρ μ → P .nx ρ μ) : WS C F (.for_ tg it b) ρ μ P := by
  obtain ⟨xs, v, m, e, rfl, h0⟩ := h
  exact ⟨ev_for I P e h0 (fun x r ρ μ h => let ⟨ρ1, e1, f, ρ', m', e2, q⟩ := step x r ρ μ h; ⟨ρ1, e1, f, ρ', m', e2, q⟩) fin⟩
/-- over the images of a list, by what was done -/
theorem ws_forA {α : Type} {tg : Tg} {it : It} {b : List S} {xs : List α} {f : α → D} {w : D} (I : Nat → Rho → Store → Prop) (h : WIt C F it ρ μ fun ys v m => (ys = xs.map f ∧ v = .d w) ∧ I 0 ρ m)
    (step : ∀ (j : Nat) (hj : j < xs.length) ρ μ, I j ρ μ → OP (tgS ρ tg (f xs[j])) fun ρ1 => WSs C F b ρ1 μ (endsB (I (j + 1)) P)) (fin : ∀ ρ μ, I xs.length ρ μ → P .nx ρ μ) : WS C F (.for_ tg it b) ρ μ P := by
  obtain ⟨ys, v, m, e, ⟨rfl, rfl⟩, h0⟩ := h
  refine ⟨ev_forL I P e h0 (fun j hj ρ μ h => ?_) (fun ρ μ h => fin ρ μ (by rw [List.length_map] at h; exact h))⟩
  obtain ⟨ρ1, e1, f, ρ', m', e2, q⟩ := step j (by rw [List.length_map] at hj; exact hj) ρ μ h
  exact ⟨ρ1, by rw [List.getElem_map]; exact e1, f, ρ', m', e2, q⟩
theorem ws_whl {c : E} {b : List S} (I : Nat → Rho → Store → Prop) (n : Nat) (h0 : I n ρ μ)
    (step : ∀ n ρ μ, I n ρ μ → WT C F c ρ μ fun k m => (k = false → P .nx ρ m) ∧ (k = true → WSs C F b ρ m (endsW I P n))) : WS C F (.whl c b) ρ μ P :=
  ⟨ev_whl I P n h0 fun n ρ μ h => by
    obtain ⟨k, m, e, q1, q2⟩ := step n ρ μ h
    refine ⟨k, m, e, ?_⟩
    cases k with
    | false => exact .inl ⟨rfl, q1 rfl⟩
    | true => exact .inr ⟨rfl, (q2 rfl).ex⟩⟩
theorem ew_ret {I : Nat → Rho → Store → Prop} {n : Nat} {v : Val} (h : P (.ret v) ρ μ) : endsW I P n (.ret v) ρ μ := h
theorem ew_bk {I : Nat → Rho → Store → Prop} {n : Nat} (h : P .nx ρ μ) : endsW I P n .bk ρ μ := h
theorem eb_ret {I : Rho → Store → Prop} {v : Val} (h : P (.ret v) ρ μ) : endsB I P (.ret v) ρ μ := h
theorem eb_bk {I : Rho → Store → Prop} (h : P .nx ρ μ) : endsB I P .bk ρ μ := h
/-! ### comprehensions -/
theorem we_mapA {α : Type} {own : List Nat} {tg : Tg} {it : It} {elt : E} (xs : List α) (f : α → D) (g : α → D) {v : Val} {m : Store} (hi : WIt C F it ρ μ fun ys w m' => ys = xs.map f ∧ w = v ∧ m' = m) (hs : Still v (xs.map f) m)
    (h : ∀ x ∈ xs, OP (tgS (wipeR ρ own) tg (f x)) fun ρ1 => WE C F elt ρ1 m fun v m' => v = .d (g x) ∧ m' = m) (q : Q (.d (.list (xs.map g))) m) : WE C F (.comp own tg it .nil elt) ρ μ Q := by
  obtain ⟨ys, w, m', e, rfl, rfl, rfl⟩ := hi
  refine ⟨_, _, ev_mapA f g e hs fun x hx => ?_, q⟩
  obtain ⟨ρ1, e1, v, m, e2, rfl, rfl⟩ := h x hx
  exact ⟨ρ1, e1, e2⟩
theorem we_filtA {α : Type} {own : List Nat} {tg : Tg} {it : It} {cs : Es} {elt : E} (xs : List α) (f : α → D) (c : α → Bool) (g : α → D) {v : Val} {m : Store} (hi : WIt C F it ρ μ fun ys w m' => ys = xs.map f ∧ w = v ∧ m' = m) (hs : Still v (xs.map f) m)
    (h : ∀ x ∈ xs, OP (tgS (wipeR ρ own) tg (f x)) fun ρ1 => (WCs C F cs ρ1 m fun b m' => b = c x ∧ m' = m) ∧ (c x = true → WE C F elt ρ1 m fun v m' => v = .d (g x) ∧ m' = m)) (q : Q (.d (.list ((xs.filter c).map g))) m) : WE C F (.comp own tg it cs elt) ρ μ Q := by
  obtain ⟨ys, w, m', e, rfl, rfl, rfl⟩ := hi
  refine ⟨_, _, ev_filtA f c g e hs fun x hx => ?_, q⟩
  obtain ⟨ρ1, e1, ⟨v, m, e2, rfl, rfl⟩, h2⟩ := h x hx
  refine ⟨ρ1, e1, e2, fun hc => ?_⟩
  obtain ⟨v, m, e3, rfl, rfl⟩ := h2 hc
  exact e3
theorem we_comp2A {α β : Type} {own : List Nat} {tg tg' : Tg} {it it' : It} {cs : Es} {elt : E} (xs : List α) (f : α → D) (ys : α → List β) (f' : β → D) (c : α → β → Bool) (g : α → β → D) {v : Val} {m : Store}
    (hi : WIt C F it ρ μ fun ys w m' => ys = xs.map f ∧ w = v ∧ m' = m) (hs : Still v (xs.map f) m) (hz : (xs.flatMap fun x => ((ys x).filter (c x)).map (g x)).length ≤ sizeLine)
    (h : ∀ x ∈ xs, OP (tgS (wipeR ρ own) tg (f x)) fun ρ1 => (WIt C F it' ρ1 m fun zs w m' => zs = (ys x).map f' ∧ Still w ((ys x).map f') m ∧ m' = m) ∧
      ∀ y ∈ ys x, OP (tgS (wipeR ρ1 tg'.ix) tg' (f' y)) fun ρ2 => (WCs C F cs ρ2 m fun b m' => b = c x y ∧ m' = m) ∧ (c x y = true → WE C F elt ρ2 m fun v m' => v = .d (g x y) ∧ m' = m))
    (q : Q (.d (.list (xs.flatMap fun x => ((ys x).filter (c x)).map (g x)))) m) : WE C F (.comp2 own tg it tg' it' cs elt) ρ μ Q := by
  obtain ⟨zs, w, m', e, rfl, rfl, rfl⟩ := hi
  refine ⟨_, _, ev_comp2A f ys f' c g e hs hz fun x hx => ?_, q⟩
  obtain ⟨ρ1, e1, ⟨zs, w, m, e2, rfl, h1, rfl⟩, h2⟩ := h x hx
  refine ⟨ρ1, w, e1, e2, h1, fun y hy => ?_⟩
  obtain ⟨ρ2, e3, ⟨v, m, e4, rfl, rfl⟩, h3⟩ := h2 y hy
  refine ⟨ρ2, e3, e4, fun hc => ?_⟩
  obtain ⟨v, m, e5, rfl, rfl⟩ := h3 hc
  exact e5
end
/-! ### defs -/
/-- the end of a def -/
def Fin (μ : Store) (Q : Val → Store → Prop) : Flow → Rho → Store → Prop
  | .nx, _, m => OP (endD μ (.d .none) m) fun r => Q r.1 r.2
  | .ret v, _, m => OP (endD μ v m) fun r => Q r.1 r.2
  | _, _, _ => False
theorem fin_d {μ m : Store} {Q : Val → Store → Prop} {ρ : Rho} {x : D} (u : Up μ m) (q : Q (.d x) μ) : Fin μ Q (.ret (.d x)) ρ m := ⟨_, u.endD x, q⟩
theorem fin_nx {μ m : Store} {Q : Val → Store → Prop} {ρ : Rho} (u : Up μ m) (q : Q (.d .none) μ) : Fin μ Q .nx ρ m := ⟨_, u.endD .none, q⟩
theorem fin_t {μ m : Store} {Q : Val → Store → Prop} {ρ : Rho} {x : D} (u : μ.length ≤ m.length) (q : Q (.d x) (m.take μ.length)) : Fin μ Q (.ret (.d x)) ρ m := ⟨_, by unfold endD; rw [if_pos u], q⟩
/-- a cell of ours is given back -/
theorem fin_p {μ m : Store} {Q : Val → Store → Prop} {ρ : Rho} {i : Nat} {xs : List D} (u : Up μ m) (c : Cell m i xs) (hi : μ.length ≤ i) (q : Q (.d (.list xs)) μ) : Fin μ Q (.ret (.p i)) ρ m := by
  refine ⟨(.d (.list xs), μ), ?_, q⟩
  unfold endD
  rw [if_pos u.1]
  have : ¬ i < μ.length := by omega
  simp only [if_neg this, c.deref, Option.map_some, u.2]
theorem run_of {C : Cons} {F : Calls} {fd : FD} {vs : List Val} {μ : Store} {Q : Val → Store → Prop} (hl : vs.length = fd.ps) (hb : vs.all (bdV μ) = true) (h : WSs C F fd.body (vs.map some ++ List.replicate (fd.n - fd.ps) none) μ (Fin μ Q)) :
    ∃ v m, runD C F fd vs μ = some (v, m) ∧ Q v m := by
  obtain ⟨f, ρ', m, e, q⟩ := h
  cases f with
  | nx => obtain ⟨⟨v, m2⟩, e2, q⟩ := q; exact ⟨v, m2, by unfold runD; rw [if_pos ⟨hl, hb⟩, e, Option.bind_some]; exact e2, q⟩
  | ret w => obtain ⟨⟨v, m2⟩, e2, q⟩ := q; exact ⟨v, m2, by unfold runD; rw [if_pos ⟨hl, hb⟩, e, Option.bind_some]; exact e2, q⟩
  | bk => exact q.elim
  | ct => exact q.elim
  | xc j => exact q.elim
theorem run_get {C : Cons} {F : Calls} {fd : FD} {vs : List Val} {μ m' : Store} {v : Val} (hl : vs.length = fd.ps) (hb : vs.all (bdV μ) = true) (h : WSs C F fd.body (vs.map some ++ List.replicate (fd.n - fd.ps) none) μ (Fin μ fun w m => w = v ∧ m = m')) :
    runD C F fd vs μ = some (v, m') := by
  obtain ⟨w, m2, e, rfl, rfl⟩ := run_of hl hb h
  exact e
/-- what a call that gives one thing gives -/
theorem cl_get {F : Calls} {f : Nat} {vs : List Val} {m m' : Store} {v : Val} (h : CL F f vs m fun w m2 => w = v ∧ m2 = m') : F f vs m = some (v, m') := by
  obtain ⟨w, m2, e, rfl, rfl⟩ := h
  exact e
end Mu

namespace Mu
open PySem PySem.Spec
open PyProof.Rows L2
/-! ### the text (printed) -/
def tp (i : Nat) : Stmt := PySem.Challenge.pw_everyregular_k19_whole_counts_follow_the.main.body.getD i (.Pass ⟨0, 0, 0, 0⟩)
def m_built : FD := ⟨3, 9, [.setM 3 (.lst (.cons (.var 0) .nil)), .setM 4 (.lst .nil), .set 5 (.int 0), .whl (.cmp .lt (.var 5) (.bi .len (.var 3))) [.setM 6 (.lst .nil), .for_ (.nm 7) (.seq (.con "LETTERS" 0)) [.set 8 (.callV 1 (.cons (.idx (.var 3) (.var 5)) (.cons (.var 7) .nil))), .ife (.cmp .nin (.var 8) (.var 3)) [.app (.var 3) (.var 8)] [], .app (.var 6) (.ixof (.var 3) (.var 8))], .app (.var 4) (.bi .tup (.var 6)), .aug 5 .add (.int 1)], .ret (.tup (.cons (.bi .tup (.var 4)) (.cons (.bi .tup (.comp [5] (.nm 5) (.rng (.bi .len (.var 3))) (.cons (.callV 2 (.cons (.idx (.var 3) (.var 5)) .nil)) .nil) (.var 5))) .nil)))]⟩
def m_paired : FD := ⟨3, 4, [.ndef 3 23 [0, 1], .ret (.callC 0 (.cons (.tup (.cons (.int 0) (.cons (.int 0) .nil))) (.cons (.var 3) (.cons (.lam 24 [2, 0, 1]) .nil))))]⟩
def m_both : FD := ⟨2, 2, [.ret (.callC 1 (.cons (.var 0) (.cons (.var 1) (.cons (.lam 25 []) .nil))))]⟩
def m_either : FD := ⟨2, 2, [.ret (.callC 1 (.cons (.var 0) (.cons (.var 1) (.cons (.lam 26 []) .nil))))]⟩
def m_contrary : FD := ⟨1, 2, [.ret (.tup (.cons (.idx (.var 0) (.int 0)) (.cons (.bi .tup (.comp [1] (.nm 1) (.rng (.bi .len (.idx (.var 0) (.int 0)))) (.cons (.cmp .nin (.var 1) (.idx (.var 0) (.int 1))) .nil) (.var 1))) .nil)))]⟩
def m_counts_from : FD := ⟨2, 7, [.set 2 (.comp [4] (.nm 4) (.rng (.bi .len (.idx (.var 0) (.int 0)))) .nil (.bi .int (.cmp .inn (.var 4) (.idx (.var 0) (.int 1))))), .for_ (.nm 3) (.rng (.var 1)) [.set 2 (.comp [5] (.nm 5) (.seq (.idx (.var 0) (.int 0))) .nil (.bi .sum (.comp [6] (.nm 6) (.seq (.var 5)) .nil (.idx (.var 2) (.var 6)))))], .ret (.var 2)]⟩
def m_count : FD := ⟨2, 2, [.ret (.idx (.call 5 (.cons (.var 0) (.cons (.var 1) .nil))) (.int 0))]⟩
def m_step_table : FD := ⟨1, 6, [.set 1 (.idx (.var 0) (.int 0)), .set 2 (.rgL (.bi .len (.var 1))), .ret (.comp [3] (.nm 3) (.seq (.var 2)) .nil (.comp [4] (.nm 4) (.seq (.var 2)) .nil (.bi .sum (.comp [5] (.nm 5) (.seq (.con "LETTERS" 0)) .nil (.bi .int (.cmp .eq (.idx (.idx (.var 1) (.var 3)) (.var 5)) (.var 4)))))))]⟩
def m_recurrence : FD := ⟨1, 11, [.set 1 (.call 7 (.cons (.var 0) .nil)), .set 2 (.bi .len (.var 1)), .set 3 (.rgL (.var 2)), .set 4 (.comp [8] (.nm 8) (.seq (.var 3)) .nil (.comp [9] (.nm 9) (.seq (.var 3)) .nil (.bi .int (.cmp .eq (.var 8) (.var 9))))), .setM 5 (.lst .nil), .for_ (.nm 6) (.rng2 (.int 1) (.bop .add (.var 2) (.int 1))) [.set 4 (.comp [8] (.nm 8) (.seq (.var 3)) .nil (.comp [9] (.nm 9) (.seq (.var 3)) .nil (.bi .sum (.comp [10] (.nm 10) (.seq (.var 3)) .nil (.bop .mul (.idx (.idx (.var 1) (.var 8)) (.var 10)) (.idx (.idx (.var 4) (.var 10)) (.var 9))))))), .set 7 (.bop .fdiv (.neg (.bi .sum (.comp [8] (.nm 8) (.seq (.var 3)) .nil (.idx (.idx (.var 4) (.var 8)) (.var 8))))) (.var 6)), .app (.var 5) (.neg (.var 7)), .set 4 (.comp [8] (.nm 8) (.seq (.var 3)) .nil (.comp [9] (.nm 9) (.seq (.var 3)) .nil (.bop .add (.idx (.idx (.var 4) (.var 8)) (.var 9)) (.bop .mul (.bi .int (.cmp .eq (.var 8) (.var 9))) (.var 7)))))], .ret (.bi .tup (.lrv (.var 5)))]⟩
def m_spread : FD := ⟨2, 7, [.setM 2 (.bi .lst (.var 1)), .set 3 (.int 0), .whl (.cmp .lt (.var 3) (.bi .len (.var 2))) [.for_ (.tp [4, 5, 6]) (.seq (.idx (.var 0) (.int 2))) [.ife (.band (.cons (.cmp .eq (.var 4) (.idx (.var 2) (.var 3))) (.cons (.cmp .eq (.var 5) (.con "SILENT" 1)) (.cons (.cmp .nin (.var 6) (.var 2)) .nil)))) [.app (.var 2) (.var 6)] []], .aug 3 .add (.int 1)], .ret (.bi .tup (.srt (.var 2)))]⟩
def m_stepped : FD := ⟨3, 6, [.ret (.call 9 (.cons (.var 0) (.cons (.sset (.comp [3, 4, 5] (.tp [3, 4, 5]) (.seq (.idx (.var 0) (.int 2))) (.cons (.band (.cons (.cmp .inn (.var 3) (.var 1)) (.cons (.cmp .eq (.var 4) (.var 2)) .nil))) .nil) (.var 5))) .nil)))]⟩
def m_to_machines : FD := ⟨1, 2, [.ndef 1 27 [0], .ret (.callC 0 (.cons (.call 9 (.cons (.var 0) (.cons (.idx (.var 0) (.int 1)) .nil))) (.cons (.var 1) (.cons (.lam 28 [0]) .nil))))]⟩
def m_from_machines_forks : FD := ⟨1, 5, [.set 1 (.idx (.var 0) (.int 0)), .set 2 (.comp2 [3, 4] (.nm 3) (.rng (.bi .len (.var 1))) (.nm 4) (.seq (.con "LETTERS" 0)) .nil (.tup (.cons (.var 3) (.cons (.var 4) (.cons (.idx (.idx (.var 1) (.var 3)) (.var 4)) .nil))))), .ret (.tup (.cons (.bi .len (.var 1)) (.cons (.tup (.cons (.int 0) .nil)) (.cons (.bi .tup (.var 2)) (.cons (.idx (.var 0) (.int 1)) .nil)))))]⟩
def m_turned : FD := ⟨1, 5, [.set 1 (.srt (.comp [2, 3, 4] (.tp [2, 3, 4]) (.seq (.idx (.var 0) (.int 2))) .nil (.tup (.cons (.var 4) (.cons (.var 3) (.cons (.var 2) .nil)))))), .ret (.tup (.cons (.idx (.var 0) (.int 0)) (.cons (.idx (.var 0) (.int 3)) (.cons (.bi .tup (.var 1)) (.cons (.idx (.var 0) (.int 1)) .nil)))))]⟩
def m_from_machines_backs : FD := ⟨1, 1, [.ret (.call 11 (.cons (.call 13 (.cons (.call 12 (.cons (.var 0) .nil)) .nil)) .nil))]⟩
def m__law_is_integer : FD := ⟨1, 1, [.ret (.band (.cons (.isi (.var 0) .int) (.cons (.inot (.isi (.var 0) .bool)) .nil)))]⟩
def m__law_pool : FD := ⟨1, 3, [.set 1 (.int 7), .for_ (.nm 2) (.seq (.sli (.var 0) .no (.so (.int 63)))) [.set 1 (.bop .mod (.bi .int (.bop .add (.bop .mul (.var 1) (.int 31)) (.var 2))) (.int 1000003))], .retM (.lst (.cons (.bi .lst (.var 0)) (.cons (.int 0) (.cons (.int 0) (.cons (.int 0) (.cons (.var 1) .nil))))))]⟩
def m__law_spread : FD := ⟨1, 4, [.set 1 (.bop .mod (.bi .int (.var 0)) (.int 2147483647)), .set 2 (.int 1), .for_ (.nm 3) (.rng (.int 4)) [.set 1 (.bop .mod (.bi .int (.bop .add (.bop .add (.bop .mul (.var 1) (.int 48271)) (.int 12345)) (.var 3))) (.int 2147483647)), .set 2 (.bop .add (.bop .mul (.var 2) (.int 2147483647)) (.var 1))], .ret (.var 2)]⟩
def m__law_draw : FD := ⟨2, 5, [.ife (.band (.cons (.cmp .le (.idx (.var 0) (.int 2)) (.int 0)) (.cons (.cmp .lt (.idx (.var 0) (.int 1)) (.bi .len (.idx (.var 0) (.int 0)))) .nil))) [.set 3 (.idx (.idx (.var 0) (.int 0)) (.idx (.var 0) (.int 1))), .put (.var 0) (.int 1) (.bop .add (.idx (.var 0) (.int 1)) (.int 1)), .put (.var 0) (.int 2) (.var 3), .ife (.cmp .lt (.var 3) (.int 1000000000000000000)) [.put (.var 0) (.int 2) (.call 17 (.cons (.var 3) .nil))] []] [], .put (.var 0) (.int 3) (.bop .add (.idx (.var 0) (.int 3)) (.int 1)), .ife (.cmp .le (.idx (.var 0) (.int 2)) (.int 0)) [.set 4 (.bop .mod (.bi .int (.bop .add (.bop .add (.bop .mul (.idx (.var 0) (.int 4)) (.int 48271)) (.bop .mul (.idx (.var 0) (.int 3)) (.int 69621))) (.int 1))) (.int 2147483647)), .set 4 (.bop .mod (.bi .int (.bop .add (.bop .mul (.var 4) (.int 16807)) (.idx (.var 0) (.int 3)))) (.int 2147483629)), .ret (.bop .mod (.bop .fdiv (.var 4) (.int 5)) (.var 1))] [], .set 2 (.bop .mod (.bi .int (.idx (.var 0) (.int 2))) (.var 1)), .put (.var 0) (.int 2) (.bop .fdiv (.idx (.var 0) (.int 2)) (.var 1)), .ret (.var 2)]⟩
def m__law_words : FD := ⟨1, 5, [.set 1 (.lst (.cons (.tup .nil) .nil)), .for_ (.nm 2) (.rng (.var 0)) [.set 3 (.lst .nil), .for_ (.nm 4) (.seq (.var 1)) [.set 3 (.bop .add (.var 3) (.lst (.cons (.bop .add (.var 4) (.tup (.cons (.int 0) .nil))) (.cons (.bop .add (.var 4) (.tup (.cons (.int 1) .nil))) .nil))))], .set 1 (.var 3)], .ret (.var 1)]⟩
def m__law_some_of : FD := ⟨2, 3, [.ret (.bi .tup (.comp [2] (.nm 2) (.rng (.var 1)) (.cons (.cmp .eq (.call 18 (.cons (.var 0) (.cons (.int 2) .nil))) (.int 0)) .nil) (.var 2)))]⟩
def m__law_machine : FD := ⟨2, 4, [.set 2 (.bop .add (.int 1) (.call 18 (.cons (.var 0) (.cons (.var 1) .nil)))), .ret (.tup (.cons (.bi .tup (.comp [3] (.nm 3) (.rng (.var 2)) .nil (.tup (.cons (.call 18 (.cons (.var 0) (.cons (.var 2) .nil))) (.cons (.call 18 (.cons (.var 0) (.cons (.var 2) .nil))) .nil))))) (.cons (.call 20 (.cons (.var 0) (.cons (.var 2) .nil))) .nil)))]⟩
def m_law : FD := ⟨1, 11, [.setM 1 (.callM 16 (.cons (.var 0) .nil)), .for_ (.nm 2) (.rng (.int 3)) [.unp [7, 8] (.tup (.cons (.call 21 (.cons (.var 1) (.cons (.int 5) .nil))) (.cons (.call 21 (.cons (.var 1) (.cons (.int 3) .nil))) .nil))), .set 3 (.call 8 (.cons (.var 7) .nil)), .ife (.bor (.cons (.inot (.isi (.var 3) .tuple)) (.cons (.cmp .ne (.bi .len (.var 3)) (.bi .len (.idx (.var 7) (.int 0)))) (.cons (.cmp .gt (.bi .len (.comp [9] (.nm 9) (.seq (.var 3)) (.cons (.inot (.call 15 (.cons (.var 9) .nil))) .nil) (.var 9))) (.int 0)) .nil)))) [.ret (.bl false)] [], .set 4 (.comp [6] (.nm 6) (.rng (.int 14)) .nil (.call 6 (.cons (.var 7) (.cons (.var 6) .nil)))), .for_ (.nm 5) (.rng (.bop .sub (.int 14) (.bi .len (.var 3)))) [.ife (.cmp .ne (.idx (.var 4) (.bop .add (.var 5) (.bi .len (.var 3)))) (.bi .sum (.comp [10] (.nm 10) (.rng (.bi .len (.var 3))) .nil (.bop .mul (.idx (.var 3) (.var 10)) (.idx (.var 4) (.bop .add (.var 5) (.var 10))))))) [.ret (.bl false)] []], .for_ (.nm 6) (.rng (.int 6)) [.ife (.cmp .ne (.bop .add (.call 6 (.cons (.call 3 (.cons (.var 7) (.cons (.var 8) .nil))) (.cons (.var 6) .nil))) (.call 6 (.cons (.call 2 (.cons (.var 7) (.cons (.var 8) .nil))) (.cons (.var 6) .nil)))) (.bop .add (.call 6 (.cons (.var 7) (.cons (.var 6) .nil))) (.call 6 (.cons (.var 8) (.cons (.var 6) .nil))))) [.ret (.bl false)] [], .ife (.bor (.cons (.cmp .ne (.bop .add (.idx (.var 4) (.var 6)) (.call 6 (.cons (.call 4 (.cons (.var 7) .nil)) (.cons (.var 6) .nil)))) (.bi .len (.call 19 (.cons (.var 6) .nil)))) (.cons (.cmp .ne (.call 6 (.cons (.call 14 (.cons (.var 7) .nil)) (.cons (.var 6) .nil))) (.idx (.var 4) (.var 6))) .nil))) [.ret (.bl false)] []]], .ret (.bl true)]⟩
def m_paired_step : FD := ⟨4, 4, [.ret (.tup (.cons (.idx (.idx (.idx (.var 2) (.int 0)) (.idx (.var 0) (.int 0))) (.var 1)) (.cons (.idx (.idx (.idx (.var 3) (.int 0)) (.idx (.var 0) (.int 1))) (.var 1)) .nil)))]⟩
def m_paired_l0 : FD := ⟨4, 4, [.ret (.callV 1 (.cons (.cmp .inn (.idx (.var 0) (.int 0)) (.idx (.var 2) (.int 1))) (.cons (.cmp .inn (.idx (.var 0) (.int 1)) (.idx (.var 3) (.int 1))) .nil)))]⟩
def m_both_l0 : FD := ⟨2, 2, [.ret (.band (.cons (.var 0) (.cons (.var 1) .nil)))]⟩
def m_either_l0 : FD := ⟨2, 2, [.ret (.bor (.cons (.var 0) (.cons (.var 1) .nil)))]⟩
def m_to_machines_step : FD := ⟨3, 3, [.ret (.call 10 (.cons (.var 2) (.cons (.var 0) (.cons (.var 1) .nil))))]⟩
def m_to_machines_l0 : FD := ⟨2, 3, [.ret (.bi .any (.comp [2] (.nm 2) (.seq (.var 0)) .nil (.cmp .inn (.var 2) (.idx (.var 1) (.int 3)))))]⟩
def fns : List Str := [("built" : Str), ("paired" : Str), ("both" : Str), ("either" : Str), ("contrary" : Str), ("counts_from" : Str), ("count" : Str), ("step_table" : Str), ("recurrence" : Str), ("spread" : Str), ("stepped" : Str), ("to_machines" : Str), ("from_machines_forks" : Str), ("turned" : Str), ("from_machines_backs" : Str), ("_law_is_integer" : Str), ("_law_pool" : Str), ("_law_spread" : Str), ("_law_draw" : Str), ("_law_words" : Str), ("_law_some_of" : Str), ("_law_machine" : Str), ("law" : Str)]
def fs : List FD := [m_built, m_paired, m_both, m_either, m_contrary, m_counts_from, m_count, m_step_table, m_recurrence, m_spread, m_stepped, m_to_machines, m_from_machines_forks, m_turned, m_from_machines_backs, m__law_is_integer, m__law_pool, m__law_spread, m__law_draw, m__law_words, m__law_some_of, m__law_machine, m_law, m_paired_step, m_paired_l0, m_both_l0, m_either_l0, m_to_machines_step, m_to_machines_l0]
def exs : List Str := []
def cons : List Str := [("LETTERS" : Str), ("SILENT" : Str)]
def C : Cons := fun n => ([(.tuple [(.int 0), (.int 1)]), (.int 2)] : List D)[n]?
def cls : List CloD := [⟨23, m_paired_step, [("pair" : Str), ("letter" : Str), ("one" : Str), ("two" : Str)], [("pair" : Str), ("letter" : Str)], [("one" : Str), ("two" : Str)]⟩, ⟨24, m_paired_l0, [("pair" : Str), ("is_good" : Str), ("one" : Str), ("two" : Str)], [("pair" : Str)], [("is_good" : Str), ("one" : Str), ("two" : Str)]⟩, ⟨25, m_both_l0, [("a" : Str), ("b" : Str)], [("a" : Str), ("b" : Str)], []⟩, ⟨26, m_either_l0, [("a" : Str), ("b" : Str)], [("a" : Str), ("b" : Str)], []⟩, ⟨27, m_to_machines_step, [("states" : Str), ("letter" : Str), ("fork" : Str)], [("states" : Str), ("letter" : Str)], [("fork" : Str)]⟩, ⟨28, m_to_machines_l0, [("states" : Str), ("fork" : Str), ("state" : Str)], [("states" : Str)], [("fork" : Str)]⟩]
def nm_paired : Nat → Nat → Str := nmOf [(19, 4, "paired.<locals>.step"), (21, 31, "paired.<locals>.<lambda>")]
def mk_paired : MkI := mkI fns cons exs cls "paired.<locals>." nm_paired
def nm_both : Nat → Nat → Str := nmOf [(23, 28, "both.<locals>.<lambda>")]
def mk_both : MkI := mkI fns cons exs cls "both.<locals>." nm_both
def nm_either : Nat → Nat → Str := nmOf [(25, 28, "either.<locals>.<lambda>")]
def mk_either : MkI := mkI fns cons exs cls "either.<locals>." nm_either
def nm_to_machines : Nat → Nat → Str := nmOf [(67, 4, "to_machines.<locals>.step"), (69, 46, "to_machines.<locals>.<lambda>")]
def mk_to_machines : MkI := mkI fns cons exs cls "to_machines.<locals>." nm_to_machines
/-- the calls, hidden from unfolding -/
noncomputable def G : Nat → Calls := Classical.choose (⟨callF C fs, rfl⟩ : ∃ g : Nat → Calls, g = callF C fs)
theorem G_eq : G = callF C fs := Classical.choose_spec (⟨callF C fs, rfl⟩ : ∃ g : Nat → Calls, g = callF C fs)
theorem c_built (k : Nat) (vs : List Val) (μ : Store) : G (k + 1) 0 vs μ = runD C (G k) m_built vs μ := by rw [G_eq]; rfl
theorem c_paired (k : Nat) (vs : List Val) (μ : Store) : G (k + 1) 1 vs μ = runD C (G k) m_paired vs μ := by rw [G_eq]; rfl
theorem c_both (k : Nat) (vs : List Val) (μ : Store) : G (k + 1) 2 vs μ = runD C (G k) m_both vs μ := by rw [G_eq]; rfl
theorem c_either (k : Nat) (vs : List Val) (μ : Store) : G (k + 1) 3 vs μ = runD C (G k) m_either vs μ := by rw [G_eq]; rfl
theorem c_contrary (k : Nat) (vs : List Val) (μ : Store) : G (k + 1) 4 vs μ = runD C (G k) m_contrary vs μ := by rw [G_eq]; rfl
theorem c_counts_from (k : Nat) (vs : List Val) (μ : Store) : G (k + 1) 5 vs μ = runD C (G k) m_counts_from vs μ := by rw [G_eq]; rfl
theorem c_count (k : Nat) (vs : List Val) (μ : Store) : G (k + 1) 6 vs μ = runD C (G k) m_count vs μ := by rw [G_eq]; rfl
theorem c_step_table (k : Nat) (vs : List Val) (μ : Store) : G (k + 1) 7 vs μ = runD C (G k) m_step_table vs μ := by rw [G_eq]; rfl
theorem c_recurrence (k : Nat) (vs : List Val) (μ : Store) : G (k + 1) 8 vs μ = runD C (G k) m_recurrence vs μ := by rw [G_eq]; rfl
theorem c_spread (k : Nat) (vs : List Val) (μ : Store) : G (k + 1) 9 vs μ = runD C (G k) m_spread vs μ := by rw [G_eq]; rfl
theorem c_stepped (k : Nat) (vs : List Val) (μ : Store) : G (k + 1) 10 vs μ = runD C (G k) m_stepped vs μ := by rw [G_eq]; rfl
theorem c_to_machines (k : Nat) (vs : List Val) (μ : Store) : G (k + 1) 11 vs μ = runD C (G k) m_to_machines vs μ := by rw [G_eq]; rfl
theorem c_from_machines_forks (k : Nat) (vs : List Val) (μ : Store) : G (k + 1) 12 vs μ = runD C (G k) m_from_machines_forks vs μ := by rw [G_eq]; rfl
theorem c_turned (k : Nat) (vs : List Val) (μ : Store) : G (k + 1) 13 vs μ = runD C (G k) m_turned vs μ := by rw [G_eq]; rfl
theorem c_from_machines_backs (k : Nat) (vs : List Val) (μ : Store) : G (k + 1) 14 vs μ = runD C (G k) m_from_machines_backs vs μ := by rw [G_eq]; rfl
theorem c__law_is_integer (k : Nat) (vs : List Val) (μ : Store) : G (k + 1) 15 vs μ = runD C (G k) m__law_is_integer vs μ := by rw [G_eq]; rfl
theorem c__law_pool (k : Nat) (vs : List Val) (μ : Store) : G (k + 1) 16 vs μ = runD C (G k) m__law_pool vs μ := by rw [G_eq]; rfl
theorem cM__law_pool (k : Nat) (vs : List Val) (μ : Store) : G (k + 1) (mB + 16) vs μ = runM C (G k) m__law_pool vs μ := by rw [G_eq]; rfl
theorem c__law_spread (k : Nat) (vs : List Val) (μ : Store) : G (k + 1) 17 vs μ = runD C (G k) m__law_spread vs μ := by rw [G_eq]; rfl
theorem c__law_draw (k : Nat) (vs : List Val) (μ : Store) : G (k + 1) 18 vs μ = runD C (G k) m__law_draw vs μ := by rw [G_eq]; rfl
theorem c__law_words (k : Nat) (vs : List Val) (μ : Store) : G (k + 1) 19 vs μ = runD C (G k) m__law_words vs μ := by rw [G_eq]; rfl
theorem c__law_some_of (k : Nat) (vs : List Val) (μ : Store) : G (k + 1) 20 vs μ = runD C (G k) m__law_some_of vs μ := by rw [G_eq]; rfl
theorem c__law_machine (k : Nat) (vs : List Val) (μ : Store) : G (k + 1) 21 vs μ = runD C (G k) m__law_machine vs μ := by rw [G_eq]; rfl
theorem c_law (k : Nat) (vs : List Val) (μ : Store) : G (k + 1) 22 vs μ = runD C (G k) m_law vs μ := by rw [G_eq]; rfl
theorem c_paired_step (k : Nat) (vs : List Val) (μ : Store) : G (k + 1) 23 vs μ = runD C (G k) m_paired_step vs μ := by rw [G_eq]; rfl
theorem c_paired_l0 (k : Nat) (vs : List Val) (μ : Store) : G (k + 1) 24 vs μ = runD C (G k) m_paired_l0 vs μ := by rw [G_eq]; rfl
theorem c_both_l0 (k : Nat) (vs : List Val) (μ : Store) : G (k + 1) 25 vs μ = runD C (G k) m_both_l0 vs μ := by rw [G_eq]; rfl
theorem c_either_l0 (k : Nat) (vs : List Val) (μ : Store) : G (k + 1) 26 vs μ = runD C (G k) m_either_l0 vs μ := by rw [G_eq]; rfl
theorem c_to_machines_step (k : Nat) (vs : List Val) (μ : Store) : G (k + 1) 27 vs μ = runD C (G k) m_to_machines_step vs μ := by rw [G_eq]; rfl
theorem c_to_machines_l0 (k : Nat) (vs : List Val) (μ : Store) : G (k + 1) 28 vs μ = runD C (G k) m_to_machines_l0 vs μ := by rw [G_eq]; rfl
theorem sc_built : FnScope ["start", "step", "is_good", "seen", "rows", "k", "row", "letter", "after"] ["start", "step", "is_good"] (defScope (tp 2)) := ⟨rfl, rfl, rfl, by decide +kernel, rfl, by decide +kernel, by decide +kernel⟩
theorem ck_built : ckSs ⟨["start", "step", "is_good", "seen", "rows", "k", "row", "letter", "after"], fns, cons, exs, noMk cls⟩ (defScope (tp 2)) m_built.body (defBody (tp 2)) = true := by decide +kernel
theorem sc_paired : FnScope ["one", "two", "is_good", "step"] ["one", "two", "is_good"] (defScope (tp 3)) := ⟨rfl, rfl, rfl, by decide +kernel, rfl, by decide +kernel, by decide +kernel⟩
theorem ck_paired : ckSs ⟨["one", "two", "is_good", "step"], fns, cons, exs, mk_paired⟩ (defScope (tp 3)) m_paired.body (defBody (tp 3)) = true := by decide +kernel
theorem sc_both : FnScope ["one", "two"] ["one", "two"] (defScope (tp 4)) := ⟨rfl, rfl, rfl, by decide +kernel, rfl, by decide +kernel, by decide +kernel⟩
theorem ck_both : ckSs ⟨["one", "two"], fns, cons, exs, mk_both⟩ (defScope (tp 4)) m_both.body (defBody (tp 4)) = true := by decide +kernel
theorem sc_either : FnScope ["one", "two"] ["one", "two"] (defScope (tp 5)) := ⟨rfl, rfl, rfl, by decide +kernel, rfl, by decide +kernel, by decide +kernel⟩
theorem ck_either : ckSs ⟨["one", "two"], fns, cons, exs, mk_either⟩ (defScope (tp 5)) m_either.body (defBody (tp 5)) = true := by decide +kernel
theorem sc_contrary : FnScope ["machine", "k"] ["machine"] (defScope (tp 6)) := ⟨rfl, rfl, rfl, by decide +kernel, rfl, by decide +kernel, by decide +kernel⟩
theorem ck_contrary : ckSs ⟨["machine", "k"], fns, cons, exs, noMk cls⟩ (defScope (tp 6)) m_contrary.body (defBody (tp 6)) = true := by decide +kernel
theorem sc_counts_from : FnScope ["machine", "length", "found", "_", "k", "row", "after"] ["machine", "length"] (defScope (tp 8)) := ⟨rfl, rfl, rfl, by decide +kernel, rfl, by decide +kernel, by decide +kernel⟩
theorem ck_counts_from : ckSs ⟨["machine", "length", "found", "_", "k", "row", "after"], fns, cons, exs, noMk cls⟩ (defScope (tp 8)) m_counts_from.body (defBody (tp 8)) = true := by decide +kernel
theorem sc_count : FnScope ["machine", "length"] ["machine", "length"] (defScope (tp 9)) := ⟨rfl, rfl, rfl, by decide +kernel, rfl, by decide +kernel, by decide +kernel⟩
theorem ck_count : ckSs ⟨["machine", "length"], fns, cons, exs, noMk cls⟩ (defScope (tp 9)) m_count.body (defBody (tp 9)) = true := by decide +kernel
theorem sc_step_table : FnScope ["machine", "rows", "every", "a", "b", "letter"] ["machine"] (defScope (tp 10)) := ⟨rfl, rfl, rfl, by decide +kernel, rfl, by decide +kernel, by decide +kernel⟩
theorem ck_step_table : ckSs ⟨["machine", "rows", "every", "a", "b", "letter"], fns, cons, exs, noMk cls⟩ (defScope (tp 10)) m_step_table.body (defBody (tp 10)) = true := by decide +kernel
theorem sc_recurrence : FnScope ["machine", "table", "many", "every", "here", "found", "k", "part", "a", "b", "c"] ["machine"] (defScope (tp 11)) := ⟨rfl, rfl, rfl, by decide +kernel, rfl, by decide +kernel, by decide +kernel⟩
theorem ck_recurrence : ckSs ⟨["machine", "table", "many", "every", "here", "found", "k", "part", "a", "b", "c"], fns, cons, exs, noMk cls⟩ (defScope (tp 11)) m_recurrence.body (defBody (tp 11)) = true := by decide +kernel
theorem sc_spread : FnScope ["fork", "states", "found", "k", "a", "letter", "b"] ["fork", "states"] (defScope (tp 14)) := ⟨rfl, rfl, rfl, by decide +kernel, rfl, by decide +kernel, by decide +kernel⟩
theorem ck_spread : ckSs ⟨["fork", "states", "found", "k", "a", "letter", "b"], fns, cons, exs, noMk cls⟩ (defScope (tp 14)) m_spread.body (defBody (tp 14)) = true := by decide +kernel
theorem sc_stepped : FnScope ["fork", "states", "letter", "a", "other", "b"] ["fork", "states", "letter"] (defScope (tp 15)) := ⟨rfl, rfl, rfl, by decide +kernel, rfl, by decide +kernel, by decide +kernel⟩
theorem ck_stepped : ckSs ⟨["fork", "states", "letter", "a", "other", "b"], fns, cons, exs, noMk cls⟩ (defScope (tp 15)) m_stepped.body (defBody (tp 15)) = true := by decide +kernel
theorem sc_to_machines : FnScope ["fork", "step"] ["fork"] (defScope (tp 16)) := ⟨rfl, rfl, rfl, by decide +kernel, rfl, by decide +kernel, by decide +kernel⟩
theorem ck_to_machines : ckSs ⟨["fork", "step"], fns, cons, exs, mk_to_machines⟩ (defScope (tp 16)) m_to_machines.body (defBody (tp 16)) = true := by decide +kernel
theorem sc_from_machines_forks : FnScope ["machine", "rows", "edges", "k", "letter"] ["machine"] (defScope (tp 17)) := ⟨rfl, rfl, rfl, by decide +kernel, rfl, by decide +kernel, by decide +kernel⟩
theorem ck_from_machines_forks : ckSs ⟨["machine", "rows", "edges", "k", "letter"], fns, cons, exs, noMk cls⟩ (defScope (tp 17)) m_from_machines_forks.body (defBody (tp 17)) = true := by decide +kernel
theorem sc_turned : FnScope ["fork", "edges", "a", "letter", "b"] ["fork"] (defScope (tp 19)) := ⟨rfl, rfl, rfl, by decide +kernel, rfl, by decide +kernel, by decide +kernel⟩
theorem ck_turned : ckSs ⟨["fork", "edges", "a", "letter", "b"], fns, cons, exs, noMk cls⟩ (defScope (tp 19)) m_turned.body (defBody (tp 19)) = true := by decide +kernel
theorem sc_from_machines_backs : FnScope ["machine"] ["machine"] (defScope (tp 21)) := ⟨rfl, rfl, rfl, by decide +kernel, rfl, by decide +kernel, by decide +kernel⟩
theorem ck_from_machines_backs : ckSs ⟨["machine"], fns, cons, exs, noMk cls⟩ (defScope (tp 21)) m_from_machines_backs.body (defBody (tp 21)) = true := by decide +kernel
theorem sc__law_is_integer : FnScope ["actual"] ["actual"] (defScope (tp 24)) := ⟨rfl, rfl, rfl, by decide +kernel, rfl, by decide +kernel, by decide +kernel⟩
theorem ck__law_is_integer : ckSs ⟨["actual"], fns, cons, exs, noMk cls⟩ (defScope (tp 24)) m__law_is_integer.body (defBody (tp 24)) = true := by decide +kernel
theorem sc__law_pool : FnScope ["script", "salt", "cell"] ["script"] (defScope (tp 25)) := ⟨rfl, rfl, rfl, by decide +kernel, rfl, by decide +kernel, by decide +kernel⟩
theorem ck__law_pool : ckSs ⟨["script", "salt", "cell"], fns, cons, exs, noMk cls⟩ (defScope (tp 25)) m__law_pool.body (defBody (tp 25)) = true := by decide +kernel
theorem sc__law_spread : FnScope ["cell", "mixed", "total", "k"] ["cell"] (defScope (tp 26)) := ⟨rfl, rfl, rfl, by decide +kernel, rfl, by decide +kernel, by decide +kernel⟩
theorem ck__law_spread : ckSs ⟨["cell", "mixed", "total", "k"], fns, cons, exs, noMk cls⟩ (defScope (tp 26)) m__law_spread.body (defBody (tp 26)) = true := by decide +kernel
theorem sc__law_draw : FnScope ["pool", "many", "value", "cell", "mixed"] ["pool", "many"] (defScope (tp 27)) := ⟨rfl, rfl, rfl, by decide +kernel, rfl, by decide +kernel, by decide +kernel⟩
theorem ck__law_draw : ckSs ⟨["pool", "many", "value", "cell", "mixed"], fns, cons, exs, noMk cls⟩ (defScope (tp 27)) m__law_draw.body (defBody (tp 27)) = true := by decide +kernel
theorem sc__law_words : FnScope ["length", "found", "k", "longer", "word"] ["length"] (defScope (tp 28)) := ⟨rfl, rfl, rfl, by decide +kernel, rfl, by decide +kernel, by decide +kernel⟩
theorem ck__law_words : ckSs ⟨["length", "found", "k", "longer", "word"], fns, cons, exs, noMk cls⟩ (defScope (tp 28)) m__law_words.body (defBody (tp 28)) = true := by decide +kernel
theorem sc__law_some_of : FnScope ["pool", "many", "k"] ["pool", "many"] (defScope (tp 29)) := ⟨rfl, rfl, rfl, by decide +kernel, rfl, by decide +kernel, by decide +kernel⟩
theorem ck__law_some_of : ckSs ⟨["pool", "many", "k"], fns, cons, exs, noMk cls⟩ (defScope (tp 29)) m__law_some_of.body (defBody (tp 29)) = true := by decide +kernel
theorem sc__law_machine : FnScope ["pool", "most", "many", "k"] ["pool", "most"] (defScope (tp 30)) := ⟨rfl, rfl, rfl, by decide +kernel, rfl, by decide +kernel, by decide +kernel⟩
theorem ck__law_machine : ckSs ⟨["pool", "most", "many", "k"], fns, cons, exs, noMk cls⟩ (defScope (tp 30)) m__law_machine.body (defBody (tp 30)) = true := by decide +kernel
theorem sc_law : FnScope ["script", "pool", "turn", "rule", "row", "n", "length", "machine", "other", "one", "k"] ["script"] (defScope (tp 31)) := ⟨rfl, rfl, rfl, by decide +kernel, rfl, by decide +kernel, by decide +kernel⟩
theorem ck_law : ckSs ⟨["script", "pool", "turn", "rule", "row", "n", "length", "machine", "other", "one", "k"], fns, cons, exs, noMk cls⟩ (defScope (tp 31)) m_law.body (defBody (tp 31)) = true := by decide +kernel
set_option maxHeartbeats 0 in
theorem all_mk {K : PySem.W.Frag} {h : Heap} {mg : Str → Option Value} (X : K.In h) (G : h.Ns mainGlobals mg)
    {f0 : Addr} {od0 an0 : Option Addr} {sl0 : Array (Option Value)} {oc0 kV0 dc0 pm0 cd0 ct0 : Value}
    {cc1 : Addr}
    {f1 : Addr} {od1 an1 : Option Addr} {sl1 : Array (Option Value)} {oc1 kV1 dc1 pm1 ct1 : Value}
    {cc2 : Addr}
    {f2 : Addr} {od2 an2 : Option Addr} {sl2 : Array (Option Value)} {oc2 kV2 dc2 pm2 ct2 : Value}
    {cc3 : Addr}
    {f3 : Addr} {od3 an3 : Option Addr} {sl3 : Array (Option Value)} {oc3 kV3 dc3 pm3 ct3 : Value}
    {f4 : Addr} {od4 an4 : Option Addr} {sl4 : Array (Option Value)} {oc4 kV4 dc4 pm4 cd4 ct4 : Value}
    {f5 : Addr} {od5 an5 : Option Addr} {sl5 : Array (Option Value)} {oc5 kV5 dc5 pm5 cd5 ct5 : Value}
    {f6 : Addr} {od6 an6 : Option Addr} {sl6 : Array (Option Value)} {oc6 kV6 dc6 pm6 cd6 ct6 : Value}
    {f7 : Addr} {od7 an7 : Option Addr} {sl7 : Array (Option Value)} {oc7 kV7 dc7 pm7 cd7 ct7 : Value}
    {f8 : Addr} {od8 an8 : Option Addr} {sl8 : Array (Option Value)} {oc8 kV8 dc8 pm8 cd8 ct8 : Value}
    {f9 : Addr} {od9 an9 : Option Addr} {sl9 : Array (Option Value)} {oc9 kV9 dc9 pm9 cd9 ct9 : Value}
    {f10 : Addr} {od10 an10 : Option Addr} {sl10 : Array (Option Value)} {oc10 kV10 dc10 pm10 cd10 ct10 : Value}
    {cc11 : Addr}
    {f11 : Addr} {od11 an11 : Option Addr} {sl11 : Array (Option Value)} {oc11 kV11 dc11 pm11 ct11 : Value}
    {f12 : Addr} {od12 an12 : Option Addr} {sl12 : Array (Option Value)} {oc12 kV12 dc12 pm12 cd12 ct12 : Value}
    {f13 : Addr} {od13 an13 : Option Addr} {sl13 : Array (Option Value)} {oc13 kV13 dc13 pm13 cd13 ct13 : Value}
    {f14 : Addr} {od14 an14 : Option Addr} {sl14 : Array (Option Value)} {oc14 kV14 dc14 pm14 cd14 ct14 : Value}
    {f15 : Addr} {od15 an15 : Option Addr} {sl15 : Array (Option Value)} {oc15 kV15 dc15 pm15 cd15 ct15 : Value}
    {f16 : Addr} {od16 an16 : Option Addr} {sl16 : Array (Option Value)} {oc16 kV16 dc16 pm16 cd16 ct16 : Value}
    {f17 : Addr} {od17 an17 : Option Addr} {sl17 : Array (Option Value)} {oc17 kV17 dc17 pm17 cd17 ct17 : Value}
    {f18 : Addr} {od18 an18 : Option Addr} {sl18 : Array (Option Value)} {oc18 kV18 dc18 pm18 cd18 ct18 : Value}
    {f19 : Addr} {od19 an19 : Option Addr} {sl19 : Array (Option Value)} {oc19 kV19 dc19 pm19 cd19 ct19 : Value}
    {f20 : Addr} {od20 an20 : Option Addr} {sl20 : Array (Option Value)} {oc20 kV20 dc20 pm20 cd20 ct20 : Value}
    {f21 : Addr} {od21 an21 : Option Addr} {sl21 : Array (Option Value)} {oc21 kV21 dc21 pm21 cd21 ct21 : Value}
    {f22 : Addr} {od22 an22 : Option Addr} {sl22 : Array (Option Value)} {oc22 kV22 dc22 pm22 cd22 ct22 : Value}
    {p1 : Addr} {q1 : Option Addr} {n1 : Nat} {r1 : Array (Option Value)}
    {t2 : Nat}
    {t3 : Nat}
    {t4 : Nat}
    (a0 : PySem.W.nsIn K mainGlobals "built" = some (some (.ref f0)))
    (l0 : K.lookup f0 = some ⟨oc0, od0, .func (PySem.W.fnOf "built" "built" (defArgs (tp 2)) (defBody (tp 2)) (defScope (tp 2)) .none kV0 dc0 pm0 an0 cd0 ct0), sl0⟩)
    (c0 : PySem.W.codeIn K cd0 "built" = true) (k0 : PySem.W.keepIn K (.ref f0) = true)
    (a1 : PySem.W.nsIn K mainGlobals "paired" = some (some (.ref f1)))
    (l1 : K.lookup f1 = some ⟨oc1, od1, .func (PySem.W.fnOf "paired" "paired" (defArgs (tp 3)) (defBody (tp 3)) (defScope (tp 3)) .none kV1 dc1 pm1 an1 (.ref cc1) ct1), sl1⟩)
    (c1 : PySem.W.codeIn K (.ref cc1) "paired" = true) (k1 : PySem.W.keepIn K (.ref f1) = true)
    (a2 : PySem.W.nsIn K mainGlobals "both" = some (some (.ref f2)))
    (l2 : K.lookup f2 = some ⟨oc2, od2, .func (PySem.W.fnOf "both" "both" (defArgs (tp 4)) (defBody (tp 4)) (defScope (tp 4)) .none kV2 dc2 pm2 an2 (.ref cc2) ct2), sl2⟩)
    (c2 : PySem.W.codeIn K (.ref cc2) "both" = true) (k2 : PySem.W.keepIn K (.ref f2) = true)
    (a3 : PySem.W.nsIn K mainGlobals "either" = some (some (.ref f3)))
    (l3 : K.lookup f3 = some ⟨oc3, od3, .func (PySem.W.fnOf "either" "either" (defArgs (tp 5)) (defBody (tp 5)) (defScope (tp 5)) .none kV3 dc3 pm3 an3 (.ref cc3) ct3), sl3⟩)
    (c3 : PySem.W.codeIn K (.ref cc3) "either" = true) (k3 : PySem.W.keepIn K (.ref f3) = true)
    (a4 : PySem.W.nsIn K mainGlobals "contrary" = some (some (.ref f4)))
    (l4 : K.lookup f4 = some ⟨oc4, od4, .func (PySem.W.fnOf "contrary" "contrary" (defArgs (tp 6)) (defBody (tp 6)) (defScope (tp 6)) .none kV4 dc4 pm4 an4 cd4 ct4), sl4⟩)
    (c4 : PySem.W.codeIn K cd4 "contrary" = true) (k4 : PySem.W.keepIn K (.ref f4) = true)
    (a5 : PySem.W.nsIn K mainGlobals "counts_from" = some (some (.ref f5)))
    (l5 : K.lookup f5 = some ⟨oc5, od5, .func (PySem.W.fnOf "counts_from" "counts_from" (defArgs (tp 8)) (defBody (tp 8)) (defScope (tp 8)) .none kV5 dc5 pm5 an5 cd5 ct5), sl5⟩)
    (c5 : PySem.W.codeIn K cd5 "counts_from" = true) (k5 : PySem.W.keepIn K (.ref f5) = true)
    (a6 : PySem.W.nsIn K mainGlobals "count" = some (some (.ref f6)))
    (l6 : K.lookup f6 = some ⟨oc6, od6, .func (PySem.W.fnOf "count" "count" (defArgs (tp 9)) (defBody (tp 9)) (defScope (tp 9)) .none kV6 dc6 pm6 an6 cd6 ct6), sl6⟩)
    (c6 : PySem.W.codeIn K cd6 "count" = true) (k6 : PySem.W.keepIn K (.ref f6) = true)
    (a7 : PySem.W.nsIn K mainGlobals "step_table" = some (some (.ref f7)))
    (l7 : K.lookup f7 = some ⟨oc7, od7, .func (PySem.W.fnOf "step_table" "step_table" (defArgs (tp 10)) (defBody (tp 10)) (defScope (tp 10)) .none kV7 dc7 pm7 an7 cd7 ct7), sl7⟩)
    (c7 : PySem.W.codeIn K cd7 "step_table" = true) (k7 : PySem.W.keepIn K (.ref f7) = true)
    (a8 : PySem.W.nsIn K mainGlobals "recurrence" = some (some (.ref f8)))
    (l8 : K.lookup f8 = some ⟨oc8, od8, .func (PySem.W.fnOf "recurrence" "recurrence" (defArgs (tp 11)) (defBody (tp 11)) (defScope (tp 11)) .none kV8 dc8 pm8 an8 cd8 ct8), sl8⟩)
    (c8 : PySem.W.codeIn K cd8 "recurrence" = true) (k8 : PySem.W.keepIn K (.ref f8) = true)
    (a9 : PySem.W.nsIn K mainGlobals "spread" = some (some (.ref f9)))
    (l9 : K.lookup f9 = some ⟨oc9, od9, .func (PySem.W.fnOf "spread" "spread" (defArgs (tp 14)) (defBody (tp 14)) (defScope (tp 14)) .none kV9 dc9 pm9 an9 cd9 ct9), sl9⟩)
    (c9 : PySem.W.codeIn K cd9 "spread" = true) (k9 : PySem.W.keepIn K (.ref f9) = true)
    (a10 : PySem.W.nsIn K mainGlobals "stepped" = some (some (.ref f10)))
    (l10 : K.lookup f10 = some ⟨oc10, od10, .func (PySem.W.fnOf "stepped" "stepped" (defArgs (tp 15)) (defBody (tp 15)) (defScope (tp 15)) .none kV10 dc10 pm10 an10 cd10 ct10), sl10⟩)
    (c10 : PySem.W.codeIn K cd10 "stepped" = true) (k10 : PySem.W.keepIn K (.ref f10) = true)
    (a11 : PySem.W.nsIn K mainGlobals "to_machines" = some (some (.ref f11)))
    (l11 : K.lookup f11 = some ⟨oc11, od11, .func (PySem.W.fnOf "to_machines" "to_machines" (defArgs (tp 16)) (defBody (tp 16)) (defScope (tp 16)) .none kV11 dc11 pm11 an11 (.ref cc11) ct11), sl11⟩)
    (c11 : PySem.W.codeIn K (.ref cc11) "to_machines" = true) (k11 : PySem.W.keepIn K (.ref f11) = true)
    (a12 : PySem.W.nsIn K mainGlobals "from_machines_forks" = some (some (.ref f12)))
    (l12 : K.lookup f12 = some ⟨oc12, od12, .func (PySem.W.fnOf "from_machines" "from_machines" (defArgs (tp 17)) (defBody (tp 17)) (defScope (tp 17)) .none kV12 dc12 pm12 an12 cd12 ct12), sl12⟩)
    (c12 : PySem.W.codeIn K cd12 "from_machines" = true) (k12 : PySem.W.keepIn K (.ref f12) = true)
    (a13 : PySem.W.nsIn K mainGlobals "turned" = some (some (.ref f13)))
    (l13 : K.lookup f13 = some ⟨oc13, od13, .func (PySem.W.fnOf "turned" "turned" (defArgs (tp 19)) (defBody (tp 19)) (defScope (tp 19)) .none kV13 dc13 pm13 an13 cd13 ct13), sl13⟩)
    (c13 : PySem.W.codeIn K cd13 "turned" = true) (k13 : PySem.W.keepIn K (.ref f13) = true)
    (a14 : PySem.W.nsIn K mainGlobals "from_machines_backs" = some (some (.ref f14)))
    (l14 : K.lookup f14 = some ⟨oc14, od14, .func (PySem.W.fnOf "from_machines" "from_machines" (defArgs (tp 21)) (defBody (tp 21)) (defScope (tp 21)) .none kV14 dc14 pm14 an14 cd14 ct14), sl14⟩)
    (c14 : PySem.W.codeIn K cd14 "from_machines" = true) (k14 : PySem.W.keepIn K (.ref f14) = true)
    (a15 : PySem.W.nsIn K mainGlobals "_law_is_integer" = some (some (.ref f15)))
    (l15 : K.lookup f15 = some ⟨oc15, od15, .func (PySem.W.fnOf "_law_is_integer" "_law_is_integer" (defArgs (tp 24)) (defBody (tp 24)) (defScope (tp 24)) .none kV15 dc15 pm15 an15 cd15 ct15), sl15⟩)
    (c15 : PySem.W.codeIn K cd15 "_law_is_integer" = true) (k15 : PySem.W.keepIn K (.ref f15) = true)
    (a16 : PySem.W.nsIn K mainGlobals "_law_pool" = some (some (.ref f16)))
    (l16 : K.lookup f16 = some ⟨oc16, od16, .func (PySem.W.fnOf "_law_pool" "_law_pool" (defArgs (tp 25)) (defBody (tp 25)) (defScope (tp 25)) .none kV16 dc16 pm16 an16 cd16 ct16), sl16⟩)
    (c16 : PySem.W.codeIn K cd16 "_law_pool" = true) (k16 : PySem.W.keepIn K (.ref f16) = true)
    (a17 : PySem.W.nsIn K mainGlobals "_law_spread" = some (some (.ref f17)))
    (l17 : K.lookup f17 = some ⟨oc17, od17, .func (PySem.W.fnOf "_law_spread" "_law_spread" (defArgs (tp 26)) (defBody (tp 26)) (defScope (tp 26)) .none kV17 dc17 pm17 an17 cd17 ct17), sl17⟩)
    (c17 : PySem.W.codeIn K cd17 "_law_spread" = true) (k17 : PySem.W.keepIn K (.ref f17) = true)
    (a18 : PySem.W.nsIn K mainGlobals "_law_draw" = some (some (.ref f18)))
    (l18 : K.lookup f18 = some ⟨oc18, od18, .func (PySem.W.fnOf "_law_draw" "_law_draw" (defArgs (tp 27)) (defBody (tp 27)) (defScope (tp 27)) .none kV18 dc18 pm18 an18 cd18 ct18), sl18⟩)
    (c18 : PySem.W.codeIn K cd18 "_law_draw" = true) (k18 : PySem.W.keepIn K (.ref f18) = true)
    (a19 : PySem.W.nsIn K mainGlobals "_law_words" = some (some (.ref f19)))
    (l19 : K.lookup f19 = some ⟨oc19, od19, .func (PySem.W.fnOf "_law_words" "_law_words" (defArgs (tp 28)) (defBody (tp 28)) (defScope (tp 28)) .none kV19 dc19 pm19 an19 cd19 ct19), sl19⟩)
    (c19 : PySem.W.codeIn K cd19 "_law_words" = true) (k19 : PySem.W.keepIn K (.ref f19) = true)
    (a20 : PySem.W.nsIn K mainGlobals "_law_some_of" = some (some (.ref f20)))
    (l20 : K.lookup f20 = some ⟨oc20, od20, .func (PySem.W.fnOf "_law_some_of" "_law_some_of" (defArgs (tp 29)) (defBody (tp 29)) (defScope (tp 29)) .none kV20 dc20 pm20 an20 cd20 ct20), sl20⟩)
    (c20 : PySem.W.codeIn K cd20 "_law_some_of" = true) (k20 : PySem.W.keepIn K (.ref f20) = true)
    (a21 : PySem.W.nsIn K mainGlobals "_law_machine" = some (some (.ref f21)))
    (l21 : K.lookup f21 = some ⟨oc21, od21, .func (PySem.W.fnOf "_law_machine" "_law_machine" (defArgs (tp 30)) (defBody (tp 30)) (defScope (tp 30)) .none kV21 dc21 pm21 an21 cd21 ct21), sl21⟩)
    (c21 : PySem.W.codeIn K cd21 "_law_machine" = true) (k21 : PySem.W.keepIn K (.ref f21) = true)
    (a22 : PySem.W.nsIn K mainGlobals "law" = some (some (.ref f22)))
    (l22 : K.lookup f22 = some ⟨oc22, od22, .func (PySem.W.fnOf "law" "law" (defArgs (tp 31)) (defBody (tp 31)) (defScope (tp 31)) .none kV22 dc22 pm22 an22 cd22 ct22), sl22⟩)
    (c22 : PySem.W.codeIn K cd22 "law" = true) (k22 : PySem.W.keepIn K (.ref f22) = true)
    (z1 : PySem.W.nsIn K mainGlobals "len" = some none)
    (z2 : PySem.W.nsIn K mainGlobals "tuple" = some none)
    (z3 : PySem.W.nsIn K mainGlobals "list" = some none)
    (z4 : PySem.W.nsIn K mainGlobals "int" = some none)
    (z5 : PySem.W.nsIn K mainGlobals "bool" = some none)
    (z6 : PySem.W.nsIn K mainGlobals "all" = some none)
    (z7 : PySem.W.nsIn K mainGlobals "any" = some none)
    (z8 : PySem.W.nsIn K mainGlobals "max" = some none)
    (z9 : PySem.W.nsIn K mainGlobals "min" = some none)
    (z10 : PySem.W.nsIn K mainGlobals "sum" = some none)
    (z11 : PySem.W.nsIn K mainGlobals "repr" = some none)
    (z12 : PySem.W.nsIn K mainGlobals "isinstance" = some none)
    (z13 : PySem.W.nsIn K mainGlobals "str" = some none)
    (z14 : PySem.W.nsIn K mainGlobals "dict" = some none)
    (z15 : PySem.W.nsIn K mainGlobals "range" = some none)
    (z16 : PySem.W.nsIn K mainGlobals "sorted" = some none)
    (z17 : PySem.W.nsIn K mainGlobals "set" = some none)
    (z18 : PySem.W.nsIn K mainGlobals "reversed" = some none)
    (z19 : PySem.W.nsIn K mainGlobals "enumerate" = some none)
    (z20 : PySem.W.nsIn K mainGlobals "zip" = some none)
    (mg0 : PySem.W.nsIn K mainGlobals "LETTERS" = some (some (.ref p1)))
    (y1 : K.lookup p1 = some ⟨.type "tuple", q1, .seq #[(.int (0) t2), (.int (1) t3)] n1, r1⟩)
    (mg1 : PySem.W.nsIn K mainGlobals "SILENT" = some (some (.int (2) t4)))
    {ts : List Addr} (mke : ∀ P ∈ ts, h.get? P = some { cls := .none, data := .fields #[] }) (mkb : allB K ts (([(cc1, nm_paired), (cc2, nm_both), (cc3, nm_either), (cc11, nm_to_machines)] : List (Addr × (Nat → Nat → Str))).map (·.1)) = true) :
    ∃ (S : ST) (mks : List (Addr × Addr)), TextOk K S mks mg fns cons exs C fs h := by
  refine text_ok (cls := cls) (mk := [(cc1, nm_paired), (cc2, nm_both), (cc3, nm_either), (cc11, nm_to_machines)]) X ?_ mkb mke (by decide +kernel) (List.forall_mem_cons.mpr ⟨rfl, List.forall_mem_cons.mpr ⟨rfl, List.forall_mem_cons.mpr ⟨rfl, List.forall_mem_cons.mpr ⟨rfl, List.forall_mem_cons.mpr ⟨rfl, List.forall_mem_cons.mpr ⟨rfl, fun _ h => nomatch h⟩⟩⟩⟩⟩⟩) fun j x fd e1 e2 => ?_
  refine ⟨AllEx.get (xs := exs) trivial, blt_mk X G ⟨z1, z2, z3, z4, z5, z6, z7, z8, z9, z10, z11, z12, z13, z14, z15, z16, z17, z18, z19, z20, trivial⟩, fun n x d e1 e2 => ?_⟩
  · exact AllCon.get (xs := cons) (ds := [(.tuple [(.int 0), (.int 1)]), (.int 2)]) ⟨con_mk X G mg0 (cv_tup y1 (.cons (cv_int K _ _) (.cons (cv_int K _ _) .nil)) (by decide)), con_mk X G mg1 (cv_int K _ _), trivial⟩ n x d e1 e2
  · exact AllOk.get (xs := fns) (ds := fs) ⟨
      dk_mk rfl X G sc_built ck_built rfl rfl (fun _ _ _ _ _ _ us hl => match us, hl with | [_, _, _], _ => rfl) a0 l0 c0 k0,
      dk_mkT rfl rfl X G rfl rfl rfl sc_paired ck_paired rfl rfl (fun _ _ _ _ _ _ us hl => match us, hl with | [_, _, _], _ => rfl) a1 l1 c1 k1 (mk_mem (nm := nm_paired) (by simp)).1 (mk_mem (nm := nm_paired) (by simp)).2 (mk_one (nm := nm_paired) (by simp) mkb),
      dk_mkT rfl rfl X G rfl rfl rfl sc_both ck_both rfl rfl (fun _ _ _ _ _ _ us hl => match us, hl with | [_, _], _ => rfl) a2 l2 c2 k2 (mk_mem (nm := nm_both) (by simp)).1 (mk_mem (nm := nm_both) (by simp)).2 (mk_one (nm := nm_both) (by simp) mkb),
      dk_mkT rfl rfl X G rfl rfl rfl sc_either ck_either rfl rfl (fun _ _ _ _ _ _ us hl => match us, hl with | [_, _], _ => rfl) a3 l3 c3 k3 (mk_mem (nm := nm_either) (by simp)).1 (mk_mem (nm := nm_either) (by simp)).2 (mk_one (nm := nm_either) (by simp) mkb),
      dk_mk rfl X G sc_contrary ck_contrary rfl rfl (fun _ _ _ _ _ _ us hl => match us, hl with | [_], _ => rfl) a4 l4 c4 k4,
      dk_mk rfl X G sc_counts_from ck_counts_from rfl rfl (fun _ _ _ _ _ _ us hl => match us, hl with | [_, _], _ => rfl) a5 l5 c5 k5,
      dk_mk rfl X G sc_count ck_count rfl rfl (fun _ _ _ _ _ _ us hl => match us, hl with | [_, _], _ => rfl) a6 l6 c6 k6,
      dk_mk rfl X G sc_step_table ck_step_table rfl rfl (fun _ _ _ _ _ _ us hl => match us, hl with | [_], _ => rfl) a7 l7 c7 k7,
      dk_mk rfl X G sc_recurrence ck_recurrence rfl rfl (fun _ _ _ _ _ _ us hl => match us, hl with | [_], _ => rfl) a8 l8 c8 k8,
      dk_mk rfl X G sc_spread ck_spread rfl rfl (fun _ _ _ _ _ _ us hl => match us, hl with | [_, _], _ => rfl) a9 l9 c9 k9,
      dk_mk rfl X G sc_stepped ck_stepped rfl rfl (fun _ _ _ _ _ _ us hl => match us, hl with | [_, _, _], _ => rfl) a10 l10 c10 k10,
      dk_mkT rfl rfl X G rfl rfl rfl sc_to_machines ck_to_machines rfl rfl (fun _ _ _ _ _ _ us hl => match us, hl with | [_], _ => rfl) a11 l11 c11 k11 (mk_mem (nm := nm_to_machines) (by simp)).1 (mk_mem (nm := nm_to_machines) (by simp)).2 (mk_one (nm := nm_to_machines) (by simp) mkb),
      dk_mk rfl X G sc_from_machines_forks ck_from_machines_forks rfl rfl (fun _ _ _ _ _ _ us hl => match us, hl with | [_], _ => rfl) a12 l12 c12 k12,
      dk_mk rfl X G sc_turned ck_turned rfl rfl (fun _ _ _ _ _ _ us hl => match us, hl with | [_], _ => rfl) a13 l13 c13 k13,
      dk_mk rfl X G sc_from_machines_backs ck_from_machines_backs rfl rfl (fun _ _ _ _ _ _ us hl => match us, hl with | [_], _ => rfl) a14 l14 c14 k14,
      dk_mk rfl X G sc__law_is_integer ck__law_is_integer rfl rfl (fun _ _ _ _ _ _ us hl => match us, hl with | [_], _ => rfl) a15 l15 c15 k15,
      dk_mk rfl X G sc__law_pool ck__law_pool rfl rfl (fun _ _ _ _ _ _ us hl => match us, hl with | [_], _ => rfl) a16 l16 c16 k16,
      dk_mk rfl X G sc__law_spread ck__law_spread rfl rfl (fun _ _ _ _ _ _ us hl => match us, hl with | [_], _ => rfl) a17 l17 c17 k17,
      dk_mk rfl X G sc__law_draw ck__law_draw rfl rfl (fun _ _ _ _ _ _ us hl => match us, hl with | [_, _], _ => rfl) a18 l18 c18 k18,
      dk_mk rfl X G sc__law_words ck__law_words rfl rfl (fun _ _ _ _ _ _ us hl => match us, hl with | [_], _ => rfl) a19 l19 c19 k19,
      dk_mk rfl X G sc__law_some_of ck__law_some_of rfl rfl (fun _ _ _ _ _ _ us hl => match us, hl with | [_, _], _ => rfl) a20 l20 c20 k20,
      dk_mk rfl X G sc__law_machine ck__law_machine rfl rfl (fun _ _ _ _ _ _ us hl => match us, hl with | [_, _], _ => rfl) a21 l21 c21 k21,
      dk_mk rfl X G sc_law ck_law rfl rfl (fun _ _ _ _ _ _ us hl => match us, hl with | [_], _ => rfl) a22 l22 c22 k22,
      trivial⟩ j x fd e1 e2
end Mu

namespace Mu
open PySem
local macro_rules
  | `(tactic| infer_instance) => `(tactic| exact atI_four _ _ _ _ _ _)
local macro_rules
  | `(tactic| infer_instance) => `(tactic| exact atI_three _ _ _ _ _)
local macro_rules
  | `(tactic| infer_instance) => `(tactic| exact atI_two _ _ _ _)
local macro_rules
  | `(tactic| infer_instance) => `(tactic| exact atI_one _ _ _)
local macro_rules
  | `(tactic| infer_instance) => `(tactic| exact atI_zero _ _)
local macro_rules
  | `(tactic| infer_instance) => `(tactic| exact bi_int_i _)
local macro_rules
  | `(tactic| infer_instance) => `(tactic| exact bi_lst_t _)
local macro_rules
  | `(tactic| infer_instance) => `(tactic| exact bi_lst_l _)
local macro_rules
  | `(tactic| infer_instance) => `(tactic| exact bi_tup_t _)
local macro_rules
  | `(tactic| infer_instance) => `(tactic| exact bi_tup_l _)
local macro_rules
  | `(tactic| infer_instance) => `(tactic| exact bi_len_l _)
local macro_rules
  | `(tactic| infer_instance) => `(tactic| exact bi_len_t _)
local macro_rules
  | `(tactic| infer_instance) => `(tactic| exact cmp_ne_s _ _)
local macro_rules
  | `(tactic| infer_instance) => `(tactic| exact cmp_eq_s _ _)
local macro_rules
  | `(tactic| infer_instance) => `(tactic| exact cmp_ne_b _ _)
local macro_rules
  | `(tactic| infer_instance) => `(tactic| exact cmp_eq_b _ _)
local macro_rules
  | `(tactic| infer_instance) => `(tactic| exact cmp_ne_i _ _)
local macro_rules
  | `(tactic| infer_instance) => `(tactic| exact cmp_eq_i _ _)
local macro_rules
  | `(tactic| infer_instance) => `(tactic| exact cmp_ge _ _)
local macro_rules
  | `(tactic| infer_instance) => `(tactic| exact cmp_gt _ _)
local macro_rules
  | `(tactic| infer_instance) => `(tactic| exact cmp_le _ _)
local macro_rules
  | `(tactic| infer_instance) => `(tactic| exact cmp_lt _ _)
local macro_rules
  | `(tactic| infer_instance) => `(tactic| exact bop_sub _ _)
local macro_rules
  | `(tactic| infer_instance) => `(tactic| exact bop_add _ _)
local macro_rules
  | `(tactic| infer_instance) => `(tactic| assumption)
local macro_rules
  | `(tactic| eq_refl) => `(tactic| refine r1p (by assumption) (by infer_instance) ?_)
local macro_rules
  | `(tactic| eq_refl) => `(tactic| refine r2q (by assumption) (by infer_instance) ?_)
local macro_rules
  | `(tactic| eq_refl) => `(tactic| refine r2p (by assumption) (by infer_instance) ?_)
local macro_rules
  | `(tactic| eq_refl) => `(tactic| refine if_hf (by assumption) ?_)
local macro_rules
  | `(tactic| eq_refl) => `(tactic| refine if_ht (by assumption) ?_)
local macro_rules
  | `(tactic| eq_refl) => `(tactic| refine br_b ?_)
local macro_rules
  | `(tactic| eq_refl) => `(tactic| refine rgp (by omega) ?_)
local macro_rules
  | `(tactic| eq_refl) => `(tactic| refine bd_p (by assumption) ?_)
local macro_rules
  | `(tactic| eq_refl) => `(tactic| refine bd_c ?_)
local macro_rules
  | `(tactic| eq_refl) => `(tactic| refine ws_augA rfl ?_)
local macro_rules
  | `(tactic| eq_refl) => `(tactic| refine itr_p (by assumption) ?_)
local macro_rules
  | `(tactic| eq_refl) => `(tactic| refine itr_t ?_)
local macro_rules
  | `(tactic| eq_refl) => `(tactic| refine itr_l ?_)
local macro_rules
  | `(tactic| eq_refl) => `(tactic| refine wit_rng2 ?_)
local macro_rules
  | `(tactic| eq_refl) => `(tactic| refine wit_rng ?_)
local macro_rules
  | `(tactic| eq_refl) => `(tactic| refine wcs_one ?_)
local macro_rules
  | `(tactic| eq_refl) => `(tactic| refine wcs_nil ?_)
local macro_rules
  | `(tactic| eq_refl) => `(tactic| refine r1i ?_)
local macro_rules
  | `(tactic| eq_refl) => `(tactic| refine wor_two ?_)
local macro_rules
  | `(tactic| eq_refl) => `(tactic| refine wand_two ?_)
local macro_rules
  | `(tactic| eq_refl) => `(tactic| refine wor_one ?_)
local macro_rules
  | `(tactic| eq_refl) => `(tactic| refine wand_one ?_)
local macro_rules
  | `(tactic| eq_refl) => `(tactic| refine wo_so ?_)
local macro_rules
  | `(tactic| eq_refl) => `(tactic| refine wo_no ?_)
local macro_rules
  | `(tactic| eq_refl) => `(tactic| refine wb ?_)
local macro_rules
  | `(tactic| eq_refl) => `(tactic| refine we_callV rfl ?_)
local macro_rules
  | `(tactic| eq_refl) => `(tactic| refine we_callC ?_)
local macro_rules
  | `(tactic| eq_refl) => `(tactic| refine we_mm2 ?_)
local macro_rules
  | `(tactic| eq_refl) => `(tactic| refine we_rgL2 ?_)
local macro_rules
  | `(tactic| eq_refl) => `(tactic| refine we_lrv ?_)
local macro_rules
  | `(tactic| eq_refl) => `(tactic| refine we_trv ?_)
local macro_rules
  | `(tactic| eq_refl) => `(tactic| refine we_lset ?_)
local macro_rules
  | `(tactic| eq_refl) => `(tactic| refine we_srt ?_)
local macro_rules
  | `(tactic| eq_refl) => `(tactic| refine we_sset ?_)
local macro_rules
  | `(tactic| eq_refl) => `(tactic| refine we_isi ?_)
local macro_rules
  | `(tactic| eq_refl) => `(tactic| refine we_sli ?_)
local macro_rules
  | `(tactic| eq_refl) => `(tactic| refine we_chn ?_)
local macro_rules
  | `(tactic| eq_refl) => `(tactic| refine we_band ?_)
local macro_rules
  | `(tactic| eq_refl) => `(tactic| refine we_bor ?_)
local macro_rules
  | `(tactic| eq_refl) => `(tactic| refine we_ite ?_)
local macro_rules
  | `(tactic| eq_refl) => `(tactic| refine we_isT ?_)
local macro_rules
  | `(tactic| eq_refl) => `(tactic| refine we_notN ?_)
local macro_rules
  | `(tactic| eq_refl) => `(tactic| refine we_isN ?_)
local macro_rules
  | `(tactic| eq_refl) => `(tactic| refine we_inot ?_)
local macro_rules
  | `(tactic| eq_refl) => `(tactic| refine we_neg ?_)
local macro_rules
  | `(tactic| eq_refl) => `(tactic| refine we_lst ?_)
local macro_rules
  | `(tactic| eq_refl) => `(tactic| refine we_lam ?_)
local macro_rules
  | `(tactic| eq_refl) => `(tactic| refine we_str ?_)
local macro_rules
  | `(tactic| eq_refl) => `(tactic| refine we_bl ?_)
local macro_rules
  | `(tactic| eq_refl) => `(tactic| refine we_non ?_)
local macro_rules
  | `(tactic| eq_refl) => `(tactic| refine eb_bk ?_)
local macro_rules
  | `(tactic| eq_refl) => `(tactic| refine eb_ret ?_)
local macro_rules
  | `(tactic| eq_refl) => `(tactic| refine ew_bk ?_)
local macro_rules
  | `(tactic| eq_refl) => `(tactic| refine ew_ret ?_)
local macro_rules
  | `(tactic| eq_refl) => `(tactic| refine ct_ct ?_)
local macro_rules
  | `(tactic| eq_refl) => `(tactic| refine ct_bk ?_)
local macro_rules
  | `(tactic| eq_refl) => `(tactic| refine ct_ret ?_)
local macro_rules
  | `(tactic| eq_refl) => `(tactic| refine ws_drop ?_)
local macro_rules
  | `(tactic| eq_refl) => `(tactic| refine ws_pass ?_)
local macro_rules
  | `(tactic| eq_refl) => `(tactic| refine ws_cnt ?_)
local macro_rules
  | `(tactic| eq_refl) => `(tactic| refine ws_brk ?_)
local macro_rules
  | `(tactic| eq_refl) => `(tactic| refine ws_ndef ?_)
local macro_rules
  | `(tactic| eq_refl) => `(tactic| refine ws_retN ?_)
local macro_rules
  | `(tactic| eq_refl) => `(tactic| refine ws_ret ?_)
local macro_rules
  | `(tactic| eq_refl) => `(tactic| refine ws_par3 ?_)
local macro_rules
  | `(tactic| eq_refl) => `(tactic| refine ws_par ?_)
local macro_rules
  | `(tactic| eq_refl) => `(tactic| refine we_tup ?_)
local macro_rules
  | `(tactic| eq_refl) => `(tactic| refine wit_seq ?_)
local macro_rules
  | `(tactic| eq_refl) => `(tactic| refine r1 (by infer_instance) ?_)
local macro_rules
  | `(tactic| eq_refl) => `(tactic| refine we_bi ?_)
local macro_rules
  | `(tactic| eq_refl) => `(tactic| refine ir_i ?_)
local macro_rules
  | `(tactic| eq_refl) => `(tactic| refine wi ?_)
local macro_rules
  | `(tactic| eq_refl) => `(tactic| refine we_call ?_)
local macro_rules
  | `(tactic| eq_refl) => `(tactic| refine if_t ?_)
local macro_rules
  | `(tactic| eq_refl) => `(tactic| refine if_f ?_)
local macro_rules
  | `(tactic| eq_refl) => `(tactic| refine ws_ife ?_)
local macro_rules
  | `(tactic| eq_refl) => `(tactic| refine ws_set ?_)
local macro_rules
  | `(tactic| eq_refl) => `(tactic| refine ct_nx ?_)
local macro_rules
  | `(tactic| eq_refl) => `(tactic| refine wss_nil ?_)
local macro_rules
  | `(tactic| eq_refl) => `(tactic| refine wss_cons ?_)
local macro_rules
  | `(tactic| eq_refl) => `(tactic| refine bd_d ?_)
local macro_rules
  | `(tactic| eq_refl) => `(tactic| refine we_bop ?_)
local macro_rules
  | `(tactic| eq_refl) => `(tactic| refine we_cmp ?_)
local macro_rules
  | `(tactic| eq_refl) => `(tactic| refine r2 (by infer_instance) ?_)
local macro_rules
  | `(tactic| eq_refl) => `(tactic| refine tr_b ?_)
local macro_rules
  | `(tactic| eq_refl) => `(tactic| refine wt ?_)
local macro_rules
  | `(tactic| eq_refl) => `(tactic| refine fr_d ?_)
local macro_rules
  | `(tactic| eq_refl) => `(tactic| refine wf ?_)
local macro_rules
  | `(tactic| eq_refl) => `(tactic| refine wes_nil ?_)
local macro_rules
  | `(tactic| eq_refl) => `(tactic| refine wes_cons ?_)
local macro_rules
  | `(tactic| eq_refl) => `(tactic| refine wvs_nil ?_)
local macro_rules
  | `(tactic| eq_refl) => `(tactic| refine we_con rfl ?_)
local macro_rules
  | `(tactic| eq_refl) => `(tactic| refine we_int ?_)
local macro_rules
  | `(tactic| eq_refl) => `(tactic| refine we_idx ?_)
local macro_rules
  | `(tactic| eq_refl) => `(tactic| refine wvs_cons ?_)
local macro_rules
  | `(tactic| eq_refl) => `(tactic| refine we_var rfl ?_)
open PySem
/-- a fact kept out of sight of `assumption` -/
structure Hid (p : Prop) : Prop where
  h : p
def nth (ns : List Int) (k : Nat) : Int := ns.getD k 0
theorem at_ints {ns : List Int} {k : Nat} (h : k < ns.length) : L2.atI (ns.map PyData.int) (k : Int) = some (.int (nth ns k)) := by
  apply L2.atI_nat
  simp [List.getElem?_eq_getElem h, nth]
/-! ### draws -/
@[simp] theorem rd2_p (xs : List D) (r : Store) (y : D) (f : D → D → Option D) : rd2 (some xs :: r) (.p 0) (.d y) f = (f (.list xs) y).map fun z => (.d z, some xs :: r) := rfl
@[simp] theorem put_1 (a b c d e y : D) (r : Store) : putV (some [a, b, c, d, e] :: r) (.p 0) 1 y = some (some [a, y, c, d, e] :: r) := rfl
@[simp] theorem put_2 (a b c d e y : D) (r : Store) : putV (some [a, b, c, d, e] :: r) (.p 0) 2 y = some (some [a, b, y, d, e] :: r) := rfl
@[simp] theorem put_3 (a b c d e y : D) (r : Store) : putV (some [a, b, c, d, e] :: r) (.p 0) 3 y = some (some [a, b, c, y, e] :: r) := rfl
def poolD (cs : List Int) (a b c s : Int) : List D := [.list (cs.map .int), .int a, .int b, .int c, .int s]
@[simp] theorem endD_c (a b : Option (List D)) (r : Store) (x : D) : endD (a :: r) (.d x) (b :: r) = some (.d x, b :: r) := by simp [endD]
@[simp] theorem bdV_0 (x : Option (List D)) (r : Store) : bdV (x :: r) (.p 0) = true := by simp [bdV]
def GP (pl : List D) : Prop := ∃ cs a b c s, pl = poolD cs a b c s ∧ 0 ≤ a
theorem spread_ok (k : Nat) (c : Int) (μ : Store) : ∃ z, G (k + 1) 17 [.d (.int c)] μ = some (.d (.int z), μ) := by
  rw [c__law_spread]
  simp [runD, m__law_spread, bop_mod]
  obtain ⟨f, ρ', μ', e, z, rfl, rfl, x, y, w, rfl⟩ := ev_for (C := C) (F := G k) (tg := .nm 3) (it := .rng (.int 4)) (b := [.set 1 (.bop .mod (.bi .int (.bop .add (.bop .add (.bop .mul (.var 1) (.int 48271)) (.int 12345)) (.var 3))) (.int 2147483647)), .set 2 (.bop .add (.bop .mul (.var 2) (.int 2147483647)) (.var 1))])
    (ρ := [some (.d (.int c)), some (.d (.int (c % 2147483647))), some (.d (.int 1)), none]) (μ := μ) (xs := rngD 0 4) (w := .none) (μ1 := μ)
    (fun r ρ m => (∀ x ∈ r, ∃ i, x = PyData.int i) ∧ m = μ ∧ ∃ a b x, ρ = [some (.d (.int c)), some (.d (.int a)), some (.d (.int b)), x])
    (fun f ρ m => ∃ z, f = .nx ∧ m = μ ∧ ∃ x y w, ρ = [x, y, some (.d (.int z)), w]) (rng_ok (by simp) (by decide)) ⟨fun x hx => let ⟨i, e, _⟩ := rngD_mem hx; ⟨i, e⟩, rfl, _, _, _, rfl⟩ (by
      rintro x r ρ m ⟨hr, rfl, a, b, y, rfl⟩
      obtain ⟨i, rfl⟩ := hr x List.mem_cons_self
      refine ⟨_, rfl, .nx, [some (.d (.int c)), some (.d (.int ((a * 48271 + 12345 + i) % 2147483647))), some (.d (.int (b * 2147483647 + (a * 48271 + 12345 + i) % 2147483647))), some (.d (.int i))], m, ?_, fun y hy => hr y (List.mem_cons_of_mem _ hy), rfl, _, _, _, rfl⟩
      simp [bop_mul _ _ (mulOk_r a (j := 48271) (by decide) (by decide)), bop_mul _ _ (mulOk_r b (j := 2147483647) (by decide) (by decide)), bop_mod])
    (by
      rintro ρ m ⟨hr, rfl, a, b, y, rfl⟩
      exact ⟨b, rfl, rfl, _, _, _, rfl⟩)
  refine ⟨z, ?_⟩
  rw [e]
  simp [endD]
theorem draw_ok (k : Nat) (many : Int) (R : Store) {pl : List D} (h : GP pl) (h1 : 0 < many) (h2 : many < 1073741824) : ∃ r pl', G (k + 2) 18 [.p 0, .d (.int many)] (some pl :: R) = some (.d (.int r), some pl' :: R) ∧ GP pl' ∧ 0 ≤ r ∧ r < many := by
  obtain ⟨cs, a, b, c, s, rfl, ha⟩ := h
  rw [c__law_draw]
  have fin : ∀ (a b : Int) (x : Option Val), 0 ≤ a → ∃ r pl', (evSs C (G (k + 1)) (m__law_draw.body.drop 1) [some (.p 0), some (.d (.int many)), none, x, none] (some (poolD cs a b c s) :: R)).bind (fun x => match x.1 with | .nx => endD (some (poolD cs 0 0 0 0) :: R) (.d .none) x.2.2 | .ret v => endD (some (poolD cs 0 0 0 0) :: R) v x.2.2 | _ => none) = some (.d (.int r), some pl' :: R) ∧ GP pl' ∧ 0 ≤ r ∧ r < many := by
    intro a b x ha
    by_cases hb : b ≤ 0
    · refine ⟨((s * 48271 + (c + 1) * 69621 + 1) % 2147483647 * 16807 + (c + 1)) % 2147483629 / 5 % many, poolD cs a b (c + 1) s, ?_, ⟨_, _, _, _, _, rfl, ha⟩, Int.emod_nonneg _ (by omega), Int.emod_lt_of_pos _ h1⟩
      simp -implicitDefEqProofs [m__law_draw, poolD, hb, bop_mul _ _ (mulOk_r s (j := 48271) (by decide) (by decide)), bop_mul _ _ (mulOk_r (c + 1) (j := 69621) (by decide) (by decide)), bop_mul _ _ (mulOk_r ((s * 48271 + (c + 1) * 69621 + 1) % 2147483647) (j := 16807) (by decide) (by decide)), bop_mod, bop_fdiv, h1, endD]
    · refine ⟨b % many, poolD cs a (b / many) (c + 1) s, ?_, ⟨_, _, _, _, _, rfl, ha⟩, Int.emod_nonneg _ (by omega), Int.emod_lt_of_pos _ h1⟩
      simp -implicitDefEqProofs [m__law_draw, poolD, hb, bop_mod, bop_fdiv, h1, h2, endD]
  have step : ∃ a' b' x, 0 ≤ a' ∧ evS C (G (k + 1)) (m__law_draw.body.headD .pass) [some (.p 0), some (.d (.int many)), none, none, none] (some (poolD cs a b c s) :: R) = some (.nx, [some (.p 0), some (.d (.int many)), none, x, none], (some (poolD cs a' b' c s) :: R)) := by
    by_cases hb : b ≤ 0
    · by_cases hc : a < cs.length
      · have hat : L2.atI (cs.map PyData.int) a = some (.int (nth cs a.toNat)) := by
          have := at_ints (ns := cs) (k := a.toNat) (by omega)
          rwa [show ((a.toNat : Nat) : Int) = a by omega] at this
        obtain ⟨z, hz⟩ := spread_ok k (nth cs a.toNat) (some (poolD cs (a + 1) (nth cs a.toNat) c s) :: R)
        by_cases hl : nth cs a.toNat < 1000000000000000000
        · refine ⟨a + 1, z, some (.d (.int (nth cs a.toNat))), by omega, ?_⟩
          simp only [poolD] at hz
          simp -implicitDefEqProofs [m__law_draw, poolD, hb, hc, hat, hl, hz]
        · refine ⟨a + 1, nth cs a.toNat, some (.d (.int (nth cs a.toNat))), by omega, ?_⟩
          simp -implicitDefEqProofs [m__law_draw, poolD, hb, hc, hat, hl]
      · refine ⟨a, b, none, ha, ?_⟩
        simp -implicitDefEqProofs [m__law_draw, poolD, hb, hc]
    · refine ⟨a, b, none, ha, ?_⟩
      simp -implicitDefEqProofs [m__law_draw, poolD, hb]
  obtain ⟨a', b', x, ha', e⟩ := step
  obtain ⟨r, pl', e2, g, h3, h4⟩ := fin a' b' x ha'
  refine ⟨r, pl', ?_, g, h3, h4⟩
  have cut : m__law_draw.body = m__law_draw.body.headD .pass :: m__law_draw.body.drop 1 := rfl
  unfold runD
  rw [cut]
  simp only [evSs_cons (r := m__law_draw.body.drop 1)]
  rw [if_pos ⟨rfl, by simp [bdV]⟩]
  have e' : evS C (G (k + 1)) (m__law_draw.body.headD .pass) (List.map some [Val.p 0, .d (.int many)] ++ List.replicate (m__law_draw.n - m__law_draw.ps) none) (some (poolD cs a b c s) :: R) = _ := e
  rw [e', Option.bind_some, nxt_nx]
  rw [← e2]
  all_goals congr 1
theorem len_i (n : Nat) (h : n < 1073741824) : (n : Int) < 1073741824 := by omega
theorem pool_ok (k : Nat) (ns : List Int) : ∃ pl, G (k + 1) (mB + 16) [.d (.list (ns.map .int))] [] = some (.d (.list pl), []) ∧ GP pl := by
  rw [cM__law_pool]
  obtain ⟨f, ρ', μ', e, z, rfl, rfl, w, rfl⟩ := ev_for (C := C) (F := G k) (tg := .nm 2) (it := .seq (.sli (.var 0) .no (.so (.int 63)))) (b := [.set 1 (.bop .mod (.bi .int (.bop .add (.bop .mul (.var 1) (.int 31)) (.var 2))) (.int 1000003))])
    (ρ := [some (.d (.list (ns.map .int))), some (.d (.int 7)), none]) (μ := []) (xs := cutD (ns.map .int) none (some 63)) (w := .list (cutD (ns.map .int) none (some 63))) (μ1 := [])
    (fun r ρ m => (∀ x ∈ r, ∃ i, x = PyData.int i) ∧ m = [] ∧ ∃ a x, ρ = [some (.d (.list (ns.map .int))), some (.d (.int a)), x])
    (fun f ρ m => ∃ z, f = .nx ∧ m = [] ∧ ∃ w, ρ = [some (.d (.list (ns.map .int))), some (.d (.int z)), w]) (by simp) ⟨fun x hx => by
      obtain ⟨i, _, rfl⟩ := List.mem_map.mp (cutD_mem hx)
      exact ⟨i, rfl⟩, rfl, _, _, rfl⟩ (by
      rintro x r ρ m ⟨hr, rfl, a, y, rfl⟩
      obtain ⟨i, rfl⟩ := hr x List.mem_cons_self
      refine ⟨_, rfl, .nx, [some (.d (.list (ns.map .int))), some (.d (.int ((a * 31 + i) % 1000003))), some (.d (.int i))], [], ?_, fun y hy => hr y (List.mem_cons_of_mem _ hy), rfl, _, _, rfl⟩
      simp -implicitDefEqProofs [bop_mul _ _ (mulOk_r a (j := 31) (by decide) (by decide)), bop_mod])
    (by
      rintro ρ m ⟨hr, rfl, a, y, rfl⟩
      exact ⟨a, rfl, rfl, _, rfl⟩)
  refine ⟨poolD ns 0 0 0 z, ?_, _, _, _, _, _, rfl, by decide⟩
  simp -implicitDefEqProofs [runM, m__law_pool]
  rw [e]
  simp [endM, poolD]
def mD (rows : List (Nat × Nat)) (gs : List Nat) : D := .tuple [.tuple (rows.map np), .tuple (gs.map nI)]
structure MN (rows : List (Nat × Nat)) : Prop where
  pos : 1 ≤ rows.length
  to : ∀ p ∈ rows, p.1 < rows.length ∧ p.2 < rows.length
def PS (R : Store) (m : Store) : Prop := ∃ pl, m = some pl :: R ∧ GP pl
/-- ascending states -/
def GsOk (n : Nat) (gs : List Nat) : Prop := gs.Pairwise (· < ·) ∧ ∀ g ∈ gs, g < n
theorem some_of_ok (k : Nat) (n : Nat) (hn : n ≤ 500) (R : Store) {pl : List D} (h : GP pl) : ∃ (gs : List Nat) (pl' : List D), G (k + 3) 20 [.p 0, .d (.int n)] (some pl :: R) = some (.d (.tuple (gs.map nI)), some pl' :: R) ∧ GP pl' ∧ GsOk n gs := by
  rw [c__law_some_of]
  have big : 1000 ≤ sizeLine := by decide
  obtain ⟨ys, μ', e, ⟨pl', rfl, g⟩, fm⟩ := ev_compI (C := C) (F := G (k + 2)) (ρ := [some (.p 0), some (.d (.int n)), none]) (μ := some pl :: R) (own := [2]) (tg := .nm 2) (it := .rng (.var 1)) (cs := .cons (.cmp .eq (.call 18 (.cons (.var 0) (.cons (.int 2) .nil))) (.int 0)) .nil) (elt := .var 2) (xs := rngD 0 n) (w := .none) (μ1 := some pl :: R)
    (PS R) (fun x zs => zs = [] ∨ zs = [x]) (rng_ok (by simp) (rngOk_small (by omega) (by omega) (by omega) (by omega))) ⟨pl, rfl, h⟩ (by
      rintro x hx m ⟨q, rfl, hq⟩
      obtain ⟨r, pl', e, g, r0, r1⟩ := draw_ok k 2 R hq (by decide) (by decide)
      refine ⟨_, rfl, decide (r = 0), some pl' :: R, ?_, ?_⟩
      · simp -implicitDefEqProofs [wipeR, e]
      · by_cases hr : r = 0
        · exact .inl ⟨by simp [hr], x, some pl' :: R, by simp [wipeR], ⟨pl', rfl, g⟩, .inr rfl⟩
        · exact .inr ⟨by simp [hr], ⟨pl', rfl, g⟩, .inl rfl⟩)
  have key : ∀ {xs ys : List D}, FM (fun x zs => zs = [] ∨ zs = [x]) xs ys → List.Sublist ys xs := by
    intro xs ys h
    induction h with
    | nil => exact .slnil
    | cons h t ih =>
      rcases h with rfl | rfl
      · exact ih.cons _
      · exact ih.cons₂ _
  have sub := key fm
  rw [rng_nI] at sub
  obtain ⟨gs, hs, rfl⟩ := List.sublist_map_iff.mp sub
  refine ⟨gs, pl', ?_, g, List.Pairwise.sublist hs List.pairwise_lt_range, fun x hx => List.mem_range.mp (hs.subset hx)⟩
  simp -implicitDefEqProofs [runD, m__law_some_of]
  rw [e]
  simp
theorem machine_ok (k : Nat) (most : Nat) (hm1 : 1 ≤ most) (hm2 : most ≤ 5) (R : Store) {pl : List D} (h : GP pl) : ∃ rows gs pl', G (k + 4) 21 [.p 0, .d (.int most)] (some pl :: R) = some (.d (mD rows gs), some pl' :: R) ∧ GP pl' ∧ MN rows ∧ GsOk rows.length gs ∧ rows.length ≤ most := by
  rw [c__law_machine]
  have big : 1000 ≤ sizeLine := by decide
  obtain ⟨r, pl1, e1, g1, r0, r1⟩ := draw_ok (k + 1) most R h (by omega) (by omega)
  have hn : (1 + r) = ((1 + r.toNat : Nat) : Int) := by omega
  have hn5 : 1 + r.toNat ≤ most := by omega
  have hn1 : 1 ≤ 1 + r.toNat := by omega
  generalize 1 + r.toNat = n at hn hn5 hn1
  obtain ⟨ys, μ', e2, ⟨pl2, rfl, g2⟩, fm⟩ := ev_compI (C := C) (F := G (k + 3)) (ρ := [some (.p 0), some (.d (.int most)), some (.d (.int n)), none]) (μ := some pl1 :: R) (own := [3]) (tg := .nm 3) (it := .rng (.var 2)) (cs := .nil) (elt := .tup (.cons (.call 18 (.cons (.var 0) (.cons (.var 2) .nil))) (.cons (.call 18 (.cons (.var 0) (.cons (.var 2) .nil))) .nil)))
    (xs := rngD 0 n) (w := .none) (μ1 := some pl1 :: R) (PS R) (fun x zs => ∃ p : Nat × Nat, zs = [np p] ∧ p.1 < n ∧ p.2 < n) (rng_ok (by simp) (rngOk_small (by omega) (by omega) (by omega) (by omega))) ⟨pl1, rfl, g1⟩ (by
      rintro x hx m ⟨q, rfl, hq⟩
      have hpos : (0 : Int) < n := by omega
      obtain ⟨a, p1, ea, ga, a0, a1⟩ := draw_ok (k + 1) n R hq hpos (by omega)
      obtain ⟨b, p2, eb, gb, b0, b1⟩ := draw_ok (k + 1) n R ga hpos (by omega)
      refine ⟨_, rfl, true, _, by simp; rfl, .inl ⟨rfl, np (a.toNat, b.toNat), some p2 :: R, ?_, ⟨p2, rfl, gb⟩, (a.toNat, b.toNat), rfl, by omega, by omega⟩⟩
      have ha : ((a.toNat : Nat) : Int) = a := by omega
      have hb : ((b.toNat : Nat) : Int) = b := by omega
      simp -implicitDefEqProofs [wipeR, ea, eb, np, nI, ha, hb])
  obtain ⟨gs, pl3, e3, g3, hg⟩ := some_of_ok k n (by omega) R g2
  have key : ∀ {xs ys : List D}, FM (fun x zs => ∃ p : Nat × Nat, zs = [np p] ∧ p.1 < n ∧ p.2 < n) xs ys → ∃ rows : List (Nat × Nat), ys = rows.map np ∧ rows.length = xs.length ∧ ∀ p ∈ rows, p.1 < n ∧ p.2 < n := by
    intro xs ys h
    induction h with
    | nil => exact ⟨[], rfl, rfl, fun _ h => by cases h⟩
    | cons h t ih =>
      obtain ⟨p, rfl, hp⟩ := h
      obtain ⟨rows, rfl, hl, hr⟩ := ih
      refine ⟨p :: rows, rfl, by simp [hl], fun q hq => ?_⟩
      rcases List.mem_cons.mp hq with rfl | hq
      · exact hp
      · exact hr q hq
  obtain ⟨rows, rfl, hlen, hrow⟩ := key fm
  rw [rngD_len] at hlen
  have hlen : rows.length = n := by omega
  refine ⟨rows, gs, pl3, ?_, g3, ⟨by omega, by rw [hlen]; exact hrow⟩, by rw [hlen]; exact hg, by omega⟩
  simp -implicitDefEqProofs [runD, m__law_machine, e1, hn]
  simp -implicitDefEqProofs only [e2, Option.bind_some, rd1_d, bi_tup_l, Option.map_some, toF_d]
  simp -implicitDefEqProofs [e3, mD]

open PySem
/-! ### words and the states they lead to -/
abbrev rowsD (rows : List (Nat × Nat)) : D := .tuple (rows.map np)
def Bw (w : List Nat) : Prop := ∀ l ∈ w, l < 2
def nth2 (p : Nat × Nat) (l : Nat) : Nat := if l = 0 then p.1 else p.2
theorem row_let (p : Nat × Nat) {l : Nat} (h : l < 2) : idxD (np p) (nI l) = some (nI (nth2 p l)) := by
  match l, h with
  | 0, _ => simp [np, nI, nth2]
  | 1, _ => simp [np, nI, nth2]
def stN (rows : List (Nat × Nat)) (s l : Nat) : Nat := nth2 (rows.getD s (0, 0)) l
def ledN (rows : List (Nat × Nat)) (s : Nat) (w : List Nat) : Nat := w.foldl (stN rows) s
def tkN (rows : List (Nat × Nat)) (gs : List Nat) (w : List Nat) : Bool := decide (ledN rows 0 w ∈ gs)
theorem mach_0 {rows : List (Nat × Nat)} {gs : List Nat} : idxD (mD rows gs) (.int 0) = some (rowsD rows) := by simp [mD]
theorem mach_1 {rows : List (Nat × Nat)} {gs : List Nat} : idxD (mD rows gs) (.int 1) = some (nd gs) := by simp [mD, nd]
theorem getD_in {rows : List (Nat × Nat)} {s : Nat} (h : s < rows.length) : rows.getD s (0, 0) = rows[s] := by simp [List.getD_eq_getElem?_getD, h]
theorem row_at {rows : List (Nat × Nat)} {s : Nat} (h : s < rows.length) : idxD (rowsD rows) (nI s) = some (np (rows.getD s (0, 0))) := by
  rw [getD_in h]; exact at_map np h
theorem stN_lt {rows : List (Nat × Nat)} (h : MN rows) {s : Nat} (hs : s < rows.length) (l : Nat) : stN rows s l < rows.length := by
  unfold stN
  rw [getD_in hs]
  obtain ⟨a, b⟩ := h.to _ (List.getElem_mem hs)
  unfold nth2
  split
  · exact a
  · exact b
theorem ledN_lt {rows : List (Nat × Nat)} (h : MN rows) : ∀ (w : List Nat) (s : Nat), s < rows.length → ledN rows s w < rows.length
  | [], _, hs => hs
  | l :: w, s, hs => ledN_lt h w _ (stN_lt h hs l)
theorem ledN_app {rows : List (Nat × Nat)} (u v : List Nat) (s : Nat) : ledN rows s (u ++ v) = ledN rows (ledN rows s u) v := List.foldl_append
theorem take_succ_f {α β : Type} (f : β → α → β) (s : β) {w : List α} {j : Nat} (h : j < w.length) : (w.take (j + 1)).foldl f s = f ((w.take j).foldl f s) w[j] := by
  rw [List.take_succ_eq_append_getElem h, List.foldl_append]; rfl
/-! ### all words -/
def ext2 (w : List Nat) : List (List Nat) := [w ++ [0], w ++ [1]]
def wordsN : Nat → List (List Nat)
  | 0 => [[]]
  | n + 1 => (wordsN n).flatMap ext2
theorem wordsN_len : ∀ n, (wordsN n).length = 2 ^ n
  | 0 => rfl
  | n + 1 => by
    have : ∀ l : List (List Nat), (l.flatMap ext2).length = l.length * 2 := fun l => by
      induction l with
      | nil => rfl
      | cons x l ih => rw [List.flatMap_cons, List.length_append, ih]; simp [ext2]; omega
    rw [wordsN, this, wordsN_len n]; omega
theorem mem_wordsN : ∀ {n : Nat} {w : List Nat}, w ∈ wordsN n ↔ w.length = n ∧ Bw w
  | 0, w => by
    simp only [wordsN, List.mem_singleton]
    constructor
    · rintro rfl; exact ⟨rfl, fun l h => by cases h⟩
    · rintro ⟨h, _⟩; exact List.eq_nil_of_length_eq_zero h
  | n + 1, w => by
    simp only [wordsN, List.mem_flatMap]
    constructor
    · rintro ⟨u, hu, hw⟩
      obtain ⟨h1, h2⟩ := mem_wordsN.mp hu
      simp only [ext2, List.mem_cons, List.not_mem_nil, or_false] at hw
      rcases hw with rfl | rfl
      · refine ⟨by simp [h1], fun l hl => ?_⟩
        rcases List.mem_append.mp hl with q | q
        · exact h2 l q
        · rw [List.mem_singleton.mp q]; decide
      · refine ⟨by simp [h1], fun l hl => ?_⟩
        rcases List.mem_append.mp hl with q | q
        · exact h2 l q
        · rw [List.mem_singleton.mp q]; decide
    · rintro ⟨h1, h2⟩
      have hne : w ≠ [] := fun e => by rw [e] at h1; simp at h1
      refine ⟨w.dropLast, mem_wordsN.mpr ⟨by simp [h1], fun l hl => h2 l (List.dropLast_subset w hl)⟩, ?_⟩
      have e := List.dropLast_concat_getLast hne
      have hl := h2 _ (List.getLast_mem hne)
      simp only [ext2, List.mem_cons, List.not_mem_nil, or_false]
      rcases (show w.getLast hne = 0 ∨ w.getLast hne = 1 by omega) with q | q
      · left; rw [q] at e; exact e.symm
      · right; rw [q] at e; exact e.symm
@[irreducible] def allW (n : Nat) : List (List Nat) := (List.range (n + 1)).flatMap wordsN
theorem mem_allW {n : Nat} {w : List Nat} : w ∈ allW n ↔ w.length ≤ n ∧ Bw w := by
  simp only [allW, List.mem_flatMap, List.mem_range, mem_wordsN]
  constructor
  · rintro ⟨a, h1, h2, h3⟩; exact ⟨by omega, h3⟩
  · rintro ⟨h1, h2⟩; exact ⟨w.length, by omega, rfl, h2⟩
theorem nd_cat {x y : List Nat} (z : x.length + y.length ≤ 100000) : bopD .add (nd x) (nd y) = some (nd (x ++ y)) := by
  have big : (100000 : Nat) ≤ sizeLine := by decide
  have e := bop_tup (x.map nI) (y.map nI) (by rw [List.length_map, List.length_map]; omega)
  unfold nd
  rw [e, List.map_append]
theorem ls_cat {x y : List D} (z : x.length + y.length ≤ 100000) : bopD .add (.list x) (.list y) = some (.list (x ++ y)) := by
  have big : (100000 : Nat) ≤ sizeLine := by decide
  exact bop_lst _ _ (by omega)
theorem rg_small {n : Nat} (h : n ≤ 100000) : rngOk 0 (n : Int) = true := by
  have big : (100000 : Nat) ≤ sizeLine := by decide
  exact rngOk_small (by omega) (by omega) (by omega) (by omega)
theorem take_flat {α β : Type} (f : α → List β) {l : List α} {j : Nat} (h : j < l.length) : (l.take (j + 1)).flatMap f = (l.take j).flatMap f ++ f l[j] := by
  rw [List.take_succ_eq_append_getElem h, List.flatMap_append]; simp
theorem law_words_ok (k n : Nat) (hn : n ≤ 8) (μ : Store) : G (k + 1) 19 [.d (.int n)] μ = some (.d (.list ((wordsN n).map nd)), μ) := by
  have pw : ∀ j, j ≤ 8 → (wordsN j).length ≤ 256 := fun j hj => by
    rw [wordsN_len]; exact Nat.pow_le_pow_right (by decide) hj
  rw [c__law_words]
  refine run_get rfl rfl ?_
  repeat eq_refl
  refine ws_forA (xs := List.range n) (f := nI) (w := .none) (fun j ρ m => m = μ ∧ ∃ x y z, ρ = [some (.d (.int n)), some (.d (.list ((wordsN j).map nd))), x, y, z]) ?_ ?_ ?_
  · repeat eq_refl
    exact ⟨⟨rng_nI n, rfl⟩, rfl, none, none, none, rfl⟩
  · rintro j hj ρ m ⟨rfl, x, y, z, rfl⟩
    rw [List.length_range] at hj
    refine op rfl ?_
    repeat eq_refl
    have hp := pw j (by omega)
    have hp2 := pw (j + 1) (by omega)
    refine ws_forA (xs := wordsN j) (f := nd) (w := .list ((wordsN j).map nd)) (fun i ρ m' => m' = m ∧ ∃ x z, ρ = [some (.d (.int n)), some (.d (.list ((wordsN j).map nd))), x, some (.d (.list (((wordsN j).take i).flatMap ext2 |>.map nd))), z]) ?_ ?_ ?_
    · repeat eq_refl
      exact ⟨⟨rfl, rfl⟩, rfl, _, _, rfl⟩
    · rintro i hi ρ m' ⟨rfl, x, z, rfl⟩
      refine op rfl ?_
      have hw := mem_wordsN.mp (List.getElem_mem hi)
      have c0 : bopD .add (nd (wordsN j)[i]) (.tuple [.int 0]) = some (nd ((wordsN j)[i] ++ [0])) := nd_cat (y := [0]) (by rw [hw.1]; simp; omega)
      have c1 : bopD .add (nd (wordsN j)[i]) (.tuple [.int 1]) = some (nd ((wordsN j)[i] ++ [1])) := nd_cat (y := [1]) (by rw [hw.1]; simp; omega)
      have few : (((wordsN j).take i).flatMap ext2).length ≤ 512 := by
        have : ∀ l : List (List Nat), (l.flatMap ext2).length = l.length * 2 := fun l => by
          induction l with
          | nil => rfl
          | cons x l ih => rw [List.flatMap_cons, List.length_append, ih]; simp [ext2]; omega
        rw [this, List.length_take]; omega
      have c2 := ls_cat (x := (((wordsN j).take i).flatMap ext2).map nd) (y := [nd ((wordsN j)[i] ++ [0]), nd ((wordsN j)[i] ++ [1])]) (by rw [List.length_map, List.length_cons, List.length_cons, List.length_nil]; omega)
      repeat eq_refl
      rw [take_flat _ hi, List.map_append]
      exact ⟨rfl, _, _, rfl⟩
    · rintro ρ m' ⟨rfl, x, z, rfl⟩
      rw [List.take_length]
      repeat eq_refl
      exact ⟨rfl, _, _, _, rfl⟩
  · rintro ρ m ⟨rfl, x, y, z, rfl⟩
    rw [List.length_range]
    repeat eq_refl
    exact fin_d (Up.refl _) ⟨rfl, rfl⟩
theorem allW_eq (n : Nat) : allW n = (List.range (n + 1)).flatMap wordsN := by unfold allW; rfl
@[irreducible] def langN (rows : List (Nat × Nat)) (gs : List Nat) (n : Nat) : List (List Nat) := (allW n).filter (tkN rows gs)
theorem mem_langN {rows : List (Nat × Nat)} {gs : List Nat} {n : Nat} {w : List Nat} : w ∈ langN rows gs n ↔ (w.length ≤ n ∧ Bw w) ∧ tkN rows gs w = true := by
  simp only [langN, List.mem_filter, mem_allW]
theorem langN_eq (rows : List (Nat × Nat)) (gs : List Nat) (n : Nat) : langN rows gs n = (allW n).filter (tkN rows gs) := by unfold langN; rfl
/-! ### two side by side -/
def pairs (n m : Nat) : List (Nat × Nat) := (List.range n).flatMap fun a => (List.range m).map fun b => (a, b)
theorem pairs_len (n m : Nat) : (pairs n m).length = n * m := by
  have : ∀ l : List Nat, (l.flatMap fun a => (List.range m).map fun b => (a, b)).length = l.length * m := by
    intro l
    induction l with
    | nil => simp
    | cons x l ih => rw [List.flatMap_cons, List.length_append, List.length_map, List.length_range, ih, List.length_cons, Nat.succ_mul]; omega
  rw [pairs, this, List.length_range]
theorem mem_pairs {n m : Nat} {p : Nat × Nat} : p ∈ pairs n m ↔ p.1 < n ∧ p.2 < m := by
  obtain ⟨a, b⟩ := p
  simp [pairs]
theorem np_0 (p : Nat × Nat) : idxD (np p) (.int 0) = some (nI p.1) := by simp [np]
theorem np_1 (p : Nat × Nat) : idxD (np p) (.int 1) = some (nI p.2) := by simp [np]
theorem get_app {β : Type} {l : List β} {i : Nat} {a : β} (h : l[i]? = some a) (x : List β) : (l ++ x)[i]? = some a := by
  have := (List.getElem?_eq_some_iff.mp h).1
  rw [List.getElem?_append_left this]; exact h
theorem bw_nil : Bw [] := fun _ h => nomatch h
theorem bw_cons {l : Nat} {u : List Nat} (hl : l < 2) (h : Bw u) : Bw (l :: u) := fun x hx => by
  rcases List.mem_cons.mp hx with e | hx
  · rw [e]; exact hl
  · exact h x hx
theorem Bw.app {u v : List Nat} (h1 : Bw u) (h2 : Bw v) : Bw (u ++ v) := fun x hx => by
  rcases List.mem_append.mp hx with hx | hx
  · exact h1 x hx
  · exact h2 x hx
theorem at_getD {F : List Nat} {k : Nat} (h : k < F.length) : idxD (.list (F.map nI)) (nI k) = some (nI (F.getD k 0)) := by
  have e := at_map nI h
  rw [List.getD_eq_getElem?_getD, List.getElem?_eq_getElem h]
  exact e

open PySem
/-! ### a machine's faults -/
def isInt : D → Bool
  | .int _ => true
  | _ => false
theorem law_int_ok (k : Nat) (v : D) (μ : Store) : G (k + 1) 15 [.d v] μ = some (.d (.bool (isInt v)), μ) := by
  rw [c__law_is_integer]
  cases v <;> simp [runD, m__law_is_integer, endD, isiD, isInt]
theorem cmp_ne_n (a b : Nat) : cmpD .ne (nI a) (nI b) = some (.bool (!decide (a = b))) := by
  have := cmp_ne_i a b
  rw [show nI a = .int a from rfl, show nI b = .int b from rfl, this]
  congr 3
  rw [Bool.eq_iff_iff, decide_eq_true_iff, decide_eq_true_iff]; omega
theorem cmp_eq_n (a b : Nat) : cmpD .eq (nI a) (nI b) = some (.bool (decide (a = b))) := by
  have := cmp_eq_i a b
  rw [show nI a = .int a from rfl, show nI b = .int b from rfl, this]
  congr 2
  rw [Bool.eq_iff_iff, decide_eq_true_iff, decide_eq_true_iff]; omega
theorem cmp_lt_n (a b : Nat) : cmpD .lt (nI a) (nI b) = some (.bool (decide (a < b))) := by
  rw [show nI a = .int a from rfl, show nI b = .int b from rfl, cmp_lt]
  congr 2
  rw [Bool.eq_iff_iff]; simp
/-- numbers up to a bound -/
theorem rg_sub (n : Nat) : rngD 0 ((n : Int) - 1) = (List.range (n - 1)).map nI := by
  unfold rngD
  rw [show ((n : Int) - 1 - 0).toNat = n - 1 by omega]
  refine List.map_congr_left fun j _ => ?_
  show PyData.int (0 + (j : Int)) = PyData.int (j : Int)
  rw [Int.zero_add]
theorem rgp_sub {n : Nat} {q : Prop} (h : n ≤ 100000) (z : q) : RGP 0 ((n : Int) - 1) q := ⟨by
  have big : (100000 : Nat) ≤ sizeLine := by decide
  exact rngOk_small (by omega) (by omega) (by omega) (by omega), z⟩

open PySem
theorem nil_filt {α : Type} (xs : List α) : xs.filter (fun _ => false) = [] := List.filter_eq_nil_iff.mpr (by simp)
theorem ne_lnil : cmpD .ne (.list []) (.list []) = some (.bool false) := by
  have := eqD_of (x := .list []) (y := .list []) rfl shp_lnil shp_lnil
  simp only [cmpD, this, Option.map_some]
  congr 2
theorem max_np (p : Nat × Nat) : biD .max (np p) = some (nI (max p.1 p.2)) := by
  have := bi_max (n := (p.1 : Int)) (ns := [(p.2 : Int)])
  refine this.trans ?_
  show some (PyData.int (max (p.1 : Int) p.2)) = some (PyData.int ((max p.1 p.2 : Nat) : Int))
  congr 2; omega
/-- a machine without faults -/
structure VM (rows : List (Nat × Nat)) (gs : List Nat) : Prop where
  mn : MN rows
  gk : GsOk rows.length gs
theorem asc_len : ∀ {l : List Nat} {a n : Nat}, l.Pairwise (· < ·) → (∀ x ∈ l, a ≤ x ∧ x < n) → a ≤ n → l.length ≤ n - a
  | [], _, _, _, _, _ => Nat.zero_le _
  | x :: l, a, n, h, b, hn => by
    obtain ⟨h1, h2⟩ := List.pairwise_cons.mp h
    obtain ⟨b1, b2⟩ := b x List.mem_cons_self
    have := asc_len (a := x + 1) (n := n) h2 (fun y hy => ⟨h1 y hy, (b y (List.mem_cons_of_mem _ hy)).2⟩) (by omega)
    simp only [List.length_cons]; omega
theorem GsOk.len {n : Nat} {gs : List Nat} (h : GsOk n gs) : gs.length ≤ n := by
  have := asc_len (a := 0) h.1 (fun x hx => ⟨Nat.zero_le _, h.2 x hx⟩) (Nat.zero_le _)
  omega
/-! ### letters taken out -/

open PySem
/-! ### the machine of what is reached -/
section
variable {α : Type} [DecidableEq α] {f : α → D} {s0 : α} {st : α → Nat → α} {R : α → Prop}
structure Bst (s0 : α) (st : α → Nat → α) (R : α → Prop) (seen : List α) (rs : List (Nat × Nat)) : Prop where
  nd : seen.Nodup
  ok : ∀ a ∈ seen, R a
  z : seen[0]? = some s0
  le : rs.length ≤ seen.length
  row : ∀ (i : Nat) (p : Nat × Nat), rs[i]? = some p → ∃ a, seen[i]? = some a ∧ seen[p.1]? = some (st a 0) ∧ seen[p.2]? = some (st a 1)
theorem Bst.grow {seen : List α} {rs : List (Nat × Nat)} (b : Bst s0 st R seen rs) {x : α} (hx : R x) (hn : x ∉ seen) : Bst s0 st R (seen ++ [x]) rs := by
  refine ⟨?_, fun a ha => ?_, get_app b.z _, by rw [List.length_append]; have := b.le; omega, fun i p hp => ?_⟩
  · rw [List.nodup_append]
    refine ⟨b.nd, by simp, fun a ha c hc e => hn ?_⟩
    rw [← List.mem_singleton.mp hc, ← e]; exact ha
  · rcases List.mem_append.mp ha with h | h
    · exact b.ok a h
    · rw [List.mem_singleton.mp h]; exact hx
  · obtain ⟨a, h1, h2, h3⟩ := b.row i p hp
    exact ⟨a, get_app h1 _, get_app h2 _, get_app h3 _⟩
theorem Bst.add {seen : List α} {rs : List (Nat × Nat)} (b : Bst s0 st R seen rs) {a : α} {p : Nat × Nat} (h : seen[rs.length]? = some a) (h1 : seen[p.1]? = some (st a 0)) (h2 : seen[p.2]? = some (st a 1)) : Bst s0 st R seen (rs ++ [p]) := by
  refine ⟨b.nd, b.ok, b.z, ?_, fun i q hq => ?_⟩
  · have := (List.getElem?_eq_some_iff.mp h).1
    rw [List.length_append]; simp; omega
  · rcases Nat.lt_or_ge i rs.length with c | c
    · rw [List.getElem?_append_left c] at hq
      exact b.row i q hq
    · rw [List.getElem?_append_right c] at hq
      have : i - rs.length = 0 := by
        have := (List.getElem?_eq_some_iff.mp hq).1
        simp at this; omega
      rw [this] at hq
      simp at hq
      subst hq
      have : i = rs.length := by omega
      subst this
      exact ⟨a, h, h1, h2⟩
/-- where a word leads in the machine that was made -/
theorem Bst.led {seen : List α} {rs : List (Nat × Nat)} (b : Bst s0 st R seen rs) (hl : rs.length = seen.length) : ∀ (w : List Nat), Bw w → ∀ (i : Nat) (a : α), seen[i]? = some a → seen[ledN rs i w]? = some (w.foldl st a)
  | [], _, i, a, h => h
  | l :: w, hw, i, a, h => by
    have hi := (List.getElem?_eq_some_iff.mp h).1
    have hr : rs[i]? = some (rs[i]'(by omega)) := List.getElem?_eq_getElem _
    obtain ⟨a', h1, h2, h3⟩ := b.row i _ hr
    rw [h] at h1
    cases h1
    have e : seen[stN rs i l]? = some (st a l) := by
      unfold stN nth2
      rw [getD_in (by omega)]
      have hl2 := hw l List.mem_cons_self
      rcases (show l = 0 ∨ l = 1 by omega) with rfl | rfl
      · rw [if_pos rfl]; exact h2
      · rw [if_neg (by decide)]; exact h3
    exact b.led hl w (fun x hx => hw x (List.mem_cons_of_mem _ hx)) _ _ e
theorem idx_get [BEq α] [LawfulBEq α] {l : List α} {x : α} (h : x ∈ l) : l[l.idxOf x]? = some x := by
  rw [List.getElem?_eq_getElem (List.idxOf_lt_length_of_mem h), List.getElem_idxOf]
/-! numbers given in the order of first sight -/
def flR (rs : List (Nat × Nat)) : List Nat := rs.flatMap fun p => [p.1, p.2]
theorem flR_len (rs : List (Nat × Nat)) : (flR rs).length = 2 * rs.length := by
  induction rs with
  | nil => rfl
  | cons p rs ih => unfold flR at *; rw [List.flatMap_cons, List.length_append, ih]; simp; omega
theorem flR_add (rs : List (Nat × Nat)) (p : Nat × Nat) : flR (rs ++ [p]) = flR rs ++ [p.1, p.2] := by
  unfold flR
  rw [List.flatMap_append]
  simp
def CanL (E : List Nat) : Prop := ∀ (p t : Nat), E[p]? = some t → ∀ q, 0 < q → q < t → ∃ p' < p, E[p']? = some q
def AllL (E : List Nat) (n : Nat) : Prop := ∀ q, 0 < q → q < n → ∃ p < 2 * q, E[p]? = some q
theorem AllL.add {E : List Nat} {n : Nat} (h : AllL E n) (t : Nat) : AllL (E ++ [t]) n := fun q h0 h1 =>
  let ⟨p, h2, h3⟩ := h q h0 h1; ⟨p, h2, get_app h3 _⟩
theorem AllL.new {E : List Nat} {n : Nat} (h : AllL E n) (hl : E.length < 2 * n) : AllL (E ++ [n]) (n + 1) := fun q h0 h1 => by
  rcases Nat.lt_or_ge q n with c | c
  · exact h.add n q h0 c
  · have : q = n := by omega
    subst this
    exact ⟨E.length, hl, by rw [List.getElem?_append_right (Nat.le_refl _), Nat.sub_self]; rfl⟩
theorem CanL.add {E : List Nat} {n t : Nat} (c : CanL E) (h : AllL E n) (ht : t ≤ n) : CanL (E ++ [t]) := fun p t' hp q h0 h1 => by
  rcases Nat.lt_or_ge p E.length with k | k
  · rw [List.getElem?_append_left k] at hp
    obtain ⟨p', h2, h3⟩ := c p t' hp q h0 h1
    exact ⟨p', h2, get_app h3 _⟩
  · have hpl := (List.getElem?_eq_some_iff.mp hp).1
    rw [List.length_append, List.length_singleton] at hpl
    rw [List.getElem?_append_right k, show p - E.length = 0 by omega] at hp
    cases hp
    obtain ⟨p', h2, h3⟩ := h q h0 (by omega)
    have := (List.getElem?_eq_some_iff.mp h3).1
    exact ⟨p', by omega, get_app h3 _⟩
theorem idx_new [BEq α] [LawfulBEq α] {l : List α} {x : α} (h : x ∉ l) : (l ++ [x]).idxOf x = l.length := by
  rw [List.idxOf_append, if_neg h]
  simp
/-- what was built -/
structure Bld (s0 : α) (st : α → Nat → α) (R : α → Prop) (gd : α → Bool) (rows : List (Nat × Nat)) (gs : List Nat) (seen : List α) : Prop where
  nd : seen.Nodup
  len : seen.length = rows.length
  ok : ∀ a ∈ seen, R a
  z : seen[0]? = some s0
  led : ∀ (w : List Nat), Bw w → ∀ (i : Nat) (a : α), seen[i]? = some a → seen[ledN rows i w]? = some (w.foldl st a)
  good : ∀ (i : Nat) (a : α), seen[i]? = some a → (i ∈ gs ↔ gd a = true)
  can : CanL (flR rows)
  all : AllL (flR rows) rows.length
/-- the letters of one state -/
theorem built_letters (ap : Apart f) (k : Nat) {μ m : Store} {N : Nat} (hN : ∀ l : List α, l.Nodup → (∀ a ∈ l, R a) → l.length ≤ N) (hN2 : N ≤ 100000) (hR : ∀ a l, R a → l < 2 → R (st a l)) {js jg : Nat} {es eg : List Val}
    (hs : ∀ a l m, R a → l < 2 → G k js ([.d (f a), .d (nI l)] ++ es) m = some (.d (f (st a l)), m)) {c : Nat} (hc : μ.length ≤ c) {seen : List α} {rs : List (Nat × Nat)} (u : Up μ m) (h3 : Cell m c (seen.map f)) (h4 : Cell m (c + 1) (rs.map np)) (b : Bst s0 st R seen rs) (ce : CanL (flR rs)) (al : AllL (flR rs) seen.length) (hk : rs.length < seen.length) (x6 x7 x8 : Option Val) :
    WSs C (G k) [.setM 6 (.lst .nil), .for_ (.nm 7) (.seq (.con "LETTERS" 0)) [.set 8 (.callV 1 (.cons (.idx (.var 3) (.var 5)) (.cons (.var 7) .nil))), .ife (.cmp .nin (.var 8) (.var 3)) [.app (.var 3) (.var 8)] [], .app (.var 6) (.ixof (.var 3) (.var 8))], .app (.var 4) (.bi .tup (.var 6)), .aug 5 .add (.int 1)]
      [some (.d (f s0)), some (.c js es), some (.c jg eg), some (.p c), some (.p (c + 1)), some (.d (nI rs.length)), x6, x7, x8] m (fun fl ρ m' => fl = .nx ∧ ∃ (seen' : List α) (p : Nat × Nat) (x6 x7 x8 : Option Val), Up μ m' ∧ Cell m' c (seen'.map f) ∧ Cell m' (c + 1) ((rs ++ [p]).map np) ∧ Bst s0 st R seen' (rs ++ [p]) ∧ CanL (flR (rs ++ [p])) ∧ AllL (flR (rs ++ [p])) seen'.length ∧
        ρ = [some (.d (f s0)), some (.c js es), some (.c jg eg), some (.p c), some (.p (c + 1)), some (.d (nI (rs.length + 1))), x6, x7, x8]) := by
  have big : (100000 : Nat) < sizeLine := by decide
  have hcm := h3.lt
  have hc1 := h4.lt
  obtain ⟨a, ha⟩ : ∃ a, seen[rs.length]? = some a := ⟨_, List.getElem?_eq_getElem hk⟩
  have hRa : R a := b.ok a (List.mem_of_getElem? ha)
  refine wss_cons (ws_setM ?_)
  repeat eq_refl
  refine ⟨[], rfl, ?_⟩
  repeat eq_refl
  refine ws_forA (xs := [0, 1]) (f := nI) (w := .tuple [.int 0, .int 1]) (fun j ρ m' => ∃ (seen' : List α) (rw : List Nat) (x7 x8 : Option Val), Up μ m' ∧ Cell m' c (seen'.map f) ∧ Cell m' (c + 1) (rs.map np) ∧ Cell m' m.length (rw.map nI) ∧ Bst s0 st R seen' rs ∧ seen'[rs.length]? = some a ∧ rw.length = j ∧ CanL (flR rs ++ rw) ∧ AllL (flR rs ++ rw) seen'.length ∧ rs.length < seen'.length ∧
    (∀ (i q : Nat), rw[i]? = some q → seen'[q]? = some (st a i)) ∧ ρ = [some (.d (f s0)), some (.c js es), some (.c jg eg), some (.p c), some (.p (c + 1)), some (.d (nI rs.length)), some (.p m.length), x7, x8]) ?_ ?_ ?_
  · repeat eq_refl
    exact ⟨⟨rfl, rfl⟩, seen, [], x7, x8, u.app _, h3.app _, h4.app _, Cell.new m [], b, ha, rfl, by rw [List.append_nil]; exact ce, by rw [List.append_nil]; exact al, hk, fun i q h => by simp at h, rfl⟩
  · rintro j hj ρ m' ⟨seen', rw', x7, x8, u', c3, c4, c6, b', ha', hl, ce', al', hk', hq, rfl⟩
    have hfl := flR_len rs
    have hj2 : j < 2 := hj
    have ej : ([0, 1] : List Nat)[j] = j := by
      match j, hj2 with
      | 0, _ => rfl
      | 1, _ => rfl
    rw [ej]
    refine op rfl ?_
    have i3 : idxD (.list (seen'.map f)) (nI rs.length) = some (f a) := by
      have := (List.getElem?_eq_some_iff.mp ha').1
      have e := at_map f this
      rw [(List.getElem?_eq_some_iff.mp ha').2] at e
      exact e
    have hm := hN seen' b'.nd b'.ok
    have gs := hs a j m' hRa hj2
    have hR' := hR a j hRa hj2
    repeat eq_refl
    refine ⟨rfl, cl gs ?_⟩
    have nin := ap.ninL (st a j) seen'
    have hcc : c ≠ m.length := by omega
    have hcc1 : c + 1 ≠ m.length := by omega
    repeat eq_refl
    refine ⟨fun hb => ?_, fun hb => ?_⟩
    · have hni : st a j ∉ seen' := by simpa using hb
      have hm1 := hN (seen' ++ [st a j]) (b'.grow hR' hni).nd (b'.grow hR' hni).ok
      rw [List.length_append, List.length_singleton] at hm1
      refine ws_app rfl c3 ?_
      repeat eq_refl
      refine ⟨_, c3, by rw [List.length_map]; omega, ?_⟩
      rw [show seen'.map f ++ [f (st a j)] = (seen' ++ [st a j]).map f by simp]
      have d3 := c3.set ((seen' ++ [st a j]).map f)
      have d4 := c4.set_ne (some ((seen' ++ [st a j]).map f)) (j := c) (by omega)
      have d6 := c6.set_ne (some ((seen' ++ [st a j]).map f)) hcc
      have hmem : st a j ∈ seen' ++ [st a j] := by simp
      have ix := ap.ix hmem
      have gi := idx_get hmem
      repeat eq_refl
      refine ws_app rfl d6 ?_
      refine wf (we_ixof (we_var rfl (op d3.deref ?_)))
      repeat eq_refl
      refine ⟨_, d6, by rw [List.length_map, hl]; omega, ?_⟩
      rw [show rw'.map nI ++ [PyData.int (List.idxOf (st a j) (seen' ++ [st a j]) : Nat)] = (rw' ++ [List.idxOf (st a j) (seen' ++ [st a j])]).map nI by simp [nI]]
      repeat eq_refl
      refine ⟨seen' ++ [st a j], rw' ++ [List.idxOf (st a j) (seen' ++ [st a j])], _, _, (u'.set _ (by omega)).set _ (by have := u.1; omega), d3.set_ne _ hcc.symm, d4.set_ne _ hcc1.symm, d6.set _, b'.grow hR' hni, get_app ha' _, by rw [List.length_append, hl]; rfl, by rw [← List.append_assoc, idx_new hni]; exact ce'.add al' (Nat.le_refl _), by rw [← List.append_assoc, idx_new hni, List.length_append, List.length_singleton]; exact al'.new (by rw [List.length_append, hfl, hl]; omega), by rw [List.length_append, List.length_singleton]; omega, fun i q h => ?_, rfl⟩
      rcases Nat.lt_or_ge i rw'.length with q1 | q1
      · rw [List.getElem?_append_left q1] at h
        exact get_app (hq i q h) _
      · have hi := (List.getElem?_eq_some_iff.mp h).1
        rw [List.length_append, List.length_singleton] at hi
        have e : i = rw'.length := by omega
        subst e
        rw [List.getElem?_append_right (Nat.le_refl _), Nat.sub_self] at h
        simp at h
        rw [← h, hl]; exact gi
    · have hmem : st a j ∈ seen' := by simpa using hb
      have ix := ap.ix hmem
      have gi := idx_get hmem
      repeat eq_refl
      refine ws_app rfl c6 ?_
      refine wf (we_ixof (we_var rfl (op c3.deref ?_)))
      repeat eq_refl
      refine ⟨_, c6, by rw [List.length_map, hl]; omega, ?_⟩
      rw [show rw'.map nI ++ [PyData.int (List.idxOf (st a j) seen' : Nat)] = (rw' ++ [List.idxOf (st a j) seen']).map nI by simp [nI]]
      repeat eq_refl
      refine ⟨seen', rw' ++ [List.idxOf (st a j) seen'], _, _, u'.set _ (by have := u.1; omega), c3.set_ne _ hcc.symm, c4.set_ne _ hcc1.symm, c6.set _, b', ha', by rw [List.length_append, hl]; rfl, by rw [← List.append_assoc]; exact ce'.add al' (Nat.le_of_lt (List.idxOf_lt_length_of_mem hmem)), by rw [← List.append_assoc]; exact al'.add _, hk', fun i q h => ?_, rfl⟩
      rcases Nat.lt_or_ge i rw'.length with q1 | q1
      · rw [List.getElem?_append_left q1] at h
        exact hq i q h
      · have hi := (List.getElem?_eq_some_iff.mp h).1
        rw [List.length_append, List.length_singleton] at hi
        have e : i = rw'.length := by omega
        subst e
        rw [List.getElem?_append_right (Nat.le_refl _), Nat.sub_self] at h
        simp at h
        rw [← h, hl]; exact gi
  · rintro ρ m' ⟨seen', rw', x7, x8, u', c3, c4, c6, b', ha', hl, ce', al', hk', hq, rfl⟩
    match rw', hl with
    | [q0, q1], _ =>
    have hm := hN seen' b'.nd b'.ok
    have e0 := hq 0 q0 rfl
    have e1 := hq 1 q1 rfl
    have le := b'.le
    repeat eq_refl
    refine ws_app rfl c4 ?_
    repeat eq_refl
    refine ⟨_, c4, by rw [List.length_map]; omega, ?_⟩
    rw [show rs.map np ++ [PyData.tuple ([q0, q1].map nI)] = (rs ++ [(q0, q1)]).map np by simp [np]]
    repeat eq_refl
    refine ⟨rfl, seen', (q0, q1), _, _, _, u'.set _ (by omega), c3.set_ne _ (by omega), c4.set _, b'.add ha' e0 e1, by rw [flR_add]; exact ce', by rw [flR_add]; exact al', rfl⟩
theorem built_ok2 (ap : Apart f) (k : Nat) (μ : Store) {N : Nat} (hN : ∀ l : List α, l.Nodup → (∀ a ∈ l, R a) → l.length ≤ N) (hN2 : N ≤ 100000) (h0 : R s0) (hR : ∀ a l, R a → l < 2 → R (st a l)) {js jg : Nat} {es eg : List Val} {gd : α → Bool}
    (hs : ∀ a l m, R a → l < 2 → G k js ([.d (f a), .d (nI l)] ++ es) m = some (.d (f (st a l)), m)) (hg : ∀ a m, R a → G k jg ([.d (f a)] ++ eg) m = some (.d (.bool (gd a)), m)) :
    ∃ rows gs, G (k + 1) 0 [.d (f s0), .c js es, .c jg eg] μ = some (.d (mD rows gs), μ) ∧ VM rows gs ∧ rows.length ≤ N ∧ ∃ seen, Bld s0 st R gd rows gs seen := by
  have big : (100000 : Nat) < sizeLine := by decide
  rw [c_built]
  suffices h : WSs C (G k) m_built.body (List.map some [Val.d (f s0), .c js es, .c jg eg] ++ List.replicate (m_built.n - m_built.ps) none) μ (Fin μ fun w m => m = μ ∧ ∃ rows gs, w = .d (mD rows gs) ∧ VM rows gs ∧ rows.length ≤ N ∧ ∃ seen, Bld s0 st R gd rows gs seen) by
    obtain ⟨v, m, e, rfl, rows, gs, rfl, h⟩ := run_of rfl rfl h
    exact ⟨rows, gs, e, h⟩
  refine wss_cons (ws_setM ?_)
  repeat eq_refl
  refine ⟨_, rfl, ?_⟩
  refine ct_nx (wss_cons (ws_setM ?_))
  repeat eq_refl
  refine ⟨_, rfl, ?_⟩
  repeat eq_refl
  refine ws_whl (fun n ρ m => ∃ (seen : List α) (rs : List (Nat × Nat)) (x6 x7 x8 : Option Val), n = N - rs.length ∧ Up μ m ∧ Cell m μ.length (seen.map f) ∧ Cell m (μ.length + 1) (rs.map np) ∧ Bst s0 st R seen rs ∧ CanL (flR rs) ∧ AllL (flR rs) seen.length ∧
    ρ = [some (.d (f s0)), some (.c js es), some (.c jg eg), some (.p μ.length), some (.p (μ.length + 1)), some (.d (nI rs.length)), x6, x7, x8]) N ?_ ?_
  · refine ⟨[s0], [], none, none, none, by simp, ((Up.refl μ).app _).app _, (Cell.new μ _).app _, ?_, ⟨by simp, fun a ha => by rw [List.mem_singleton.mp ha]; exact h0, rfl, by simp, fun i p h => by simp at h⟩, fun p t h => by simp [flR] at h, fun q h0 h1 => by simp at h1; omega, ?_⟩
    · have := Cell.new (μ ++ [some [f s0]]) []
      rw [List.length_append, List.length_singleton] at this
      exact this
    · rw [List.length_append, List.length_singleton]
      rfl
  · rintro n ρ m ⟨seen, rs, x6, x7, x8, rfl, u, c3, c4, b, ce, al, rfl⟩
    have hm := hN seen b.nd b.ok
    have le := b.le
    repeat eq_refl
    rw [List.length_map]
    refine ⟨fun hb => ?_, fun hb => ?_⟩
    · have hb := of_decide_eq_false hb
      have hl : rs.length = seen.length := by omega
      repeat eq_refl
      refine we_filtA (List.range seen.length) nI (fun i => match seen[i]? with | some a => gd a | none => false) nI (v := .d .none) (m := m) ?_ trivial ?_ ?_
      · repeat eq_refl
        rw [List.length_map]
        repeat eq_refl
        exact ⟨rng_nI _, rfl, rfl⟩
      · intro i hi
        have hi := List.mem_range.mp hi
        refine op rfl ⟨?_, fun _ => ?_⟩
        · have gi : seen[i]? = some seen[i] := List.getElem?_eq_getElem hi
          have ix : idxD (.list (seen.map f)) (nI i) = some (f seen[i]) := at_map f hi
          repeat eq_refl
          refine ⟨rfl, cl (hg seen[i] m (b.ok _ (List.getElem_mem hi))) ?_⟩
          repeat eq_refl
          rw [gi]
          exact ⟨rfl, rfl⟩
        · repeat eq_refl
          exact ⟨rfl, rfl⟩
      · repeat eq_refl
        refine fin_d u ⟨rfl, rs, _, rfl, ⟨⟨?_, fun p hp => ?_⟩, ?_⟩, by omega, seen, ⟨b.nd, hl.symm, b.ok, b.z, fun w hw i a h => b.led hl w hw i a h, fun i a h => ?_, ce, by rw [hl]; exact al⟩⟩
        · have := (List.getElem?_eq_some_iff.mp b.z).1
          omega
        · obtain ⟨i, hi, e⟩ := List.getElem_of_mem hp
          obtain ⟨a, _, h2, h3⟩ := b.row i p (by rw [List.getElem?_eq_getElem hi, e])
          have := (List.getElem?_eq_some_iff.mp h2).1
          have := (List.getElem?_eq_some_iff.mp h3).1
          omega
        · refine ⟨List.Pairwise.sublist List.filter_sublist List.pairwise_lt_range, fun g hg => ?_⟩
          have := List.mem_range.mp (List.mem_filter.mp hg).1
          omega
        · have hlt := (List.getElem?_eq_some_iff.mp h).1
          rw [List.mem_filter, List.mem_range, h]
          exact ⟨fun h => h.2, fun h => ⟨hlt, h⟩⟩
    · have hb := of_decide_eq_true hb
      have hb : rs.length < seen.length := by omega
      refine wss_mono (built_letters (seen := seen) (rs := rs) ap k hN hN2 hR hs (Nat.le_refl _) u c3 c4 b ce al hb x6 x7 x8) ?_
      rintro fl ρ m' ⟨rfl, seen', p, x6, x7, x8, u', c3', c4', b', ce', al', rfl⟩
      have hm' := hN seen' b'.nd b'.ok
      have le' := b'.le
      rw [List.length_append, List.length_singleton] at le'
      refine ⟨N - (rs ++ [p]).length, by rw [List.length_append, List.length_singleton]; omega, seen', rs ++ [p], x6, x7, x8, rfl, u', c3', c4', b', ce', al', ?_⟩
      rw [List.length_append, List.length_singleton]
theorem Bld.tk {gd : α → Bool} {rows : List (Nat × Nat)} {gs : List Nat} {seen : List α} (b : Bld s0 st R gd rows gs seen) {w : List Nat} (hw : Bw w) : tkN rows gs w = gd (w.foldl st s0) := by
  have e := b.led w hw 0 s0 b.z
  unfold tkN
  rw [Bool.eq_iff_iff, decide_eq_true_iff]
  exact b.good _ _ e
theorem built_ok (ap : Apart f) (k : Nat) (μ : Store) {N : Nat} (hN : ∀ l : List α, l.Nodup → (∀ a ∈ l, R a) → l.length ≤ N) (hN2 : N ≤ 100000) (h0 : R s0) (hR : ∀ a l, R a → l < 2 → R (st a l)) {js jg : Nat} {es eg : List Val} {gd : α → Bool}
    (hs : ∀ a l m, R a → l < 2 → G k js ([.d (f a), .d (nI l)] ++ es) m = some (.d (f (st a l)), m)) (hg : ∀ a m, R a → G k jg ([.d (f a)] ++ eg) m = some (.d (.bool (gd a)), m)) :
    ∃ rows gs, G (k + 1) 0 [.d (f s0), .c js es, .c jg eg] μ = some (.d (mD rows gs), μ) ∧ VM rows gs ∧ rows.length ≤ N ∧ ∀ w, Bw w → tkN rows gs w = gd (w.foldl st s0) := by
  obtain ⟨rows, gs, e, v, hl, seen, b⟩ := built_ok2 ap k μ hN hN2 h0 hR hs hg
  exact ⟨rows, gs, e, v, hl, fun w hw => b.tk hw⟩
end

open PySem
section
variable {r1 r2 : List (Nat × Nat)} {g1 g2 : List Nat}
def pst (r1 r2 : List (Nat × Nat)) (p : Nat × Nat) (l : Nat) : Nat × Nat := (stN r1 p.1 l, stN r2 p.2 l)
theorem pst_led : ∀ (w : List Nat) (p : Nat × Nat), w.foldl (pst r1 r2) p = (ledN r1 p.1 w, ledN r2 p.2 w)
  | [], _ => rfl
  | l :: w, p => by rw [List.foldl_cons, pst_led w]; rfl
theorem paired_step_ok (k : Nat) (h1 : MN r1) (h2 : MN r2) {p : Nat × Nat} (hp : p.1 < r1.length ∧ p.2 < r2.length) {l : Nat} (hl : l < 2) (m : Store) :
    G (k + 1) 23 [.d (np p), .d (nI l), .d (mD r1 g1), .d (mD r2 g2)] m = some (.d (np (pst r1 r2 p l)), m) := by
  rw [c_paired_step]
  refine run_get rfl rfl ?_
  have a0 := mach_0 (rows := r1) (gs := g1)
  have b0 := mach_0 (rows := r2) (gs := g2)
  have p0 := np_0 p
  have p1 := np_1 p
  have a1 := row_at hp.1
  have b1 := row_at hp.2
  have a2 := row_let (r1.getD p.1 (0, 0)) hl
  have b2 := row_let (r2.getD p.2 (0, 0)) hl
  repeat eq_refl
  exact fin_d (Up.refl _) ⟨rfl, rfl⟩
theorem paired_l0_ok (k : Nat) {jc : Nat} {ec : List Val} {gd : Bool → Bool → Bool} (hc : ∀ a b m, G k jc ([.d (.bool a), .d (.bool b)] ++ ec) m = some (.d (.bool (gd a b)), m)) (p : Nat × Nat) (m : Store) :
    G (k + 1) 24 [.d (np p), .c jc ec, .d (mD r1 g1), .d (mD r2 g2)] m = some (.d (.bool (gd (decide (p.1 ∈ g1)) (decide (p.2 ∈ g2)))), m) := by
  rw [c_paired_l0]
  refine run_get rfl rfl ?_
  have a1 := mach_1 (rows := r1) (gs := g1)
  have b1 := mach_1 (rows := r2) (gs := g2)
  have p0 := np_0 p
  have p1 := np_1 p
  have a2 : cmpD .inn (nI p.1) (nd g1) = some (.bool (decide (p.1 ∈ g1))) := ap_nI.inT _ _
  have b2 : cmpD .inn (nI p.2) (nd g2) = some (.bool (decide (p.2 ∈ g2))) := ap_nI.inT _ _
  repeat eq_refl
  refine ⟨rfl, cl (hc _ _ m) ?_⟩
  repeat eq_refl
  exact fin_d (Up.refl _) ⟨rfl, rfl⟩
theorem paired_ok (k : Nat) (μ : Store) (v1 : VM r1 g1) (v2 : VM r2 g2) (z : r1.length * r2.length ≤ 100000) {jc : Nat} {ec : List Val} {gd : Bool → Bool → Bool} (hc : ∀ a b m, G k jc ([.d (.bool a), .d (.bool b)] ++ ec) m = some (.d (.bool (gd a b)), m)) :
    ∃ rows gs, G (k + 3) 1 [.d (mD r1 g1), .d (mD r2 g2), .c jc ec] μ = some (.d (mD rows gs), μ) ∧ VM rows gs ∧ rows.length ≤ r1.length * r2.length ∧ ∀ w, Bw w → tkN rows gs w = gd (tkN r1 g1 w) (tkN r2 g2 w) := by
  obtain ⟨rows, gs, e, v, hl, hw⟩ := built_ok (f := np) (s0 := (0, 0)) (st := pst r1 r2) (R := fun p => p.1 < r1.length ∧ p.2 < r2.length) (gd := fun p => gd (decide (p.1 ∈ g1)) (decide (p.2 ∈ g2))) ap_np (k + 1) μ (N := r1.length * r2.length)
    (fun l nd h => by rw [← pairs_len]; exact nodup_len _ _ nd fun p hp => mem_pairs.mpr (h p hp)) z ⟨v1.mn.pos, v2.mn.pos⟩ (fun p l hp hl => ⟨stN_lt v1.mn hp.1 l, stN_lt v2.mn hp.2 l⟩)
    (fun p l m hp hl => paired_step_ok (g1 := g1) (g2 := g2) k v1.mn v2.mn hp hl m) (fun p m hp => paired_l0_ok (r1 := r1) (r2 := r2) (g1 := g1) (g2 := g2) k hc p m)
  refine ⟨rows, gs, ?_, v, hl, fun w hb => ?_⟩
  · rw [c_paired]
    refine run_get rfl rfl ?_
    repeat eq_refl
    refine op rfl (cl e ?_)
    refine ⟨rfl, ?_⟩
    repeat eq_refl
    exact fin_d (Up.refl _) ⟨rfl, rfl⟩
  · rw [hw w hb, pst_led]; rfl
theorem both_ok (k : Nat) (μ : Store) (v1 : VM r1 g1) (v2 : VM r2 g2) (z : r1.length * r2.length ≤ 100000) :
    ∃ rows gs, G (k + 5) 2 [.d (mD r1 g1), .d (mD r2 g2)] μ = some (.d (mD rows gs), μ) ∧ VM rows gs ∧ rows.length ≤ r1.length * r2.length ∧ ∀ w, Bw w → tkN rows gs w = (tkN r1 g1 w && tkN r2 g2 w) := by
  obtain ⟨rows, gs, e, v, hl, hw⟩ := paired_ok (k + 1) μ v1 v2 z (jc := 25) (ec := []) (gd := fun a b => a && b) (fun a b m => by
    rw [show ([.d (.bool a), .d (.bool b)] ++ [] : List Val) = [.d (.bool a), .d (.bool b)] from rfl, c_both_l0]
    refine run_get rfl rfl ?_
    repeat eq_refl
    cases a <;> cases b <;> refine ⟨fun h => ?_, fun h => ?_⟩ <;> first | (cases h; done) | skip
    all_goals repeat eq_refl
    all_goals exact fin_d (Up.refl _) ⟨rfl, rfl⟩)
  refine ⟨rows, gs, ?_, v, hl, hw⟩
  rw [c_both]
  refine run_get rfl rfl ?_
  repeat eq_refl
  refine op rfl (cl e ⟨rfl, ?_⟩)
  repeat eq_refl
  exact fin_d (Up.refl _) ⟨rfl, rfl⟩
theorem either_ok (k : Nat) (μ : Store) (v1 : VM r1 g1) (v2 : VM r2 g2) (z : r1.length * r2.length ≤ 100000) :
    ∃ rows gs, G (k + 5) 3 [.d (mD r1 g1), .d (mD r2 g2)] μ = some (.d (mD rows gs), μ) ∧ VM rows gs ∧ rows.length ≤ r1.length * r2.length ∧ ∀ w, Bw w → tkN rows gs w = (tkN r1 g1 w || tkN r2 g2 w) := by
  obtain ⟨rows, gs, e, v, hl, hw⟩ := paired_ok (k + 1) μ v1 v2 z (jc := 26) (ec := []) (gd := fun a b => a || b) (fun a b m => by
    rw [show ([.d (.bool a), .d (.bool b)] ++ [] : List Val) = [.d (.bool a), .d (.bool b)] from rfl, c_either_l0]
    refine run_get rfl rfl ?_
    cases a <;> cases b
    all_goals repeat eq_refl
    all_goals exact fin_d (Up.refl _) ⟨rfl, rfl⟩)
  refine ⟨rows, gs, ?_, v, hl, hw⟩
  rw [c_either]
  refine run_get rfl rfl ?_
  repeat eq_refl
  refine op rfl (cl e ⟨rfl, ?_⟩)
  repeat eq_refl
  exact fin_d (Up.refl _) ⟨rfl, rfl⟩
end

open PySem
/-! ### alike, within, contrary -/
section
variable {r1 r2 : List (Nat × Nat)} {g1 g2 : List Nat}
theorem noneD_iff (r : D) : noneV (.d r) = true ↔ r = .none := by
  cases r <;> simp [noneV]
theorem contrary_ok (k : Nat) (μ : Store) (v1 : VM r1 g1) (z : r1.length ≤ 100000) : ∃ gs, G (k + 1) 4 [.d (mD r1 g1)] μ = some (.d (mD r1 gs), μ) ∧ VM r1 gs ∧ ∀ w, tkN r1 gs w = !tkN r1 g1 w := by
  have a0 := mach_0 (rows := r1) (gs := g1)
  have a1 := mach_1 (rows := r1) (gs := g1)
  have lr : biD .len (rowsD r1) = some (.int r1.length) := by simp
  refine ⟨(List.range r1.length).filter fun s => !decide (s ∈ g1), ?_, ⟨v1.mn, List.Pairwise.sublist List.filter_sublist List.pairwise_lt_range, fun g hg => List.mem_range.mp (List.mem_filter.mp hg).1⟩, fun w => ?_⟩
  · rw [c_contrary]
    refine run_get rfl rfl ?_
    repeat eq_refl
    refine we_filtA (List.range r1.length) nI (fun s => !decide (s ∈ g1)) nI (v := .d .none) (m := μ) ?_ trivial ?_ ?_
    · repeat eq_refl
      exact ⟨rng_nI _, rfl, rfl⟩
    · intro s hs
      refine op rfl ⟨?_, fun _ => ?_⟩
      · have nin : cmpD .nin (nI s) (nd g1) = some (.bool (!decide (s ∈ g1))) := ap_nI.ninT _ _
        repeat eq_refl
        exact ⟨rfl, rfl⟩
      · repeat eq_refl
        exact ⟨rfl, rfl⟩
    · repeat eq_refl
      exact fin_d (Up.refl _) ⟨rfl, rfl⟩
  · have hs := ledN_lt v1.mn w 0 v1.mn.pos
    unfold tkN
    rw [Bool.eq_iff_iff, decide_eq_true_iff, List.mem_filter, List.mem_range]
    simp [hs]
end
/-! ### forking machines -/
abbrev Edge := Nat × Nat × Nat
def ed (e : Edge) : D := .tuple [nI e.1, nI e.2.1, nI e.2.2]
abbrev edD (E : List Edge) : D := .tuple (E.map ed)
def fkD (n : Nat) (S : List Nat) (E : List Edge) (gs : List Nat) : D := .tuple [nI n, nd S, edD E, nd gs]
theorem fk_0 {n : Nat} {S : List Nat} {E : List Edge} {gs : List Nat} : idxD (fkD n S E gs) (.int 0) = some (nI n) := by simp [fkD]
theorem fk_1 {n : Nat} {S : List Nat} {E : List Edge} {gs : List Nat} : idxD (fkD n S E gs) (.int 1) = some (nd S) := by simp [fkD]
theorem fk_2 {n : Nat} {S : List Nat} {E : List Edge} {gs : List Nat} : idxD (fkD n S E gs) (.int 2) = some (edD E) := by simp [fkD]
theorem fk_3 {n : Nat} {S : List Nat} {E : List Edge} {gs : List Nat} : idxD (fkD n S E gs) (.int 3) = some (nd gs) := by simp [fkD]
/-- a way through the edges, silent ones anywhere -/
inductive Pth (E : List Edge) : Nat → List Nat → Nat → Prop
  | nil (a : Nat) : Pth E a [] a
  | sil {a b c : Nat} {w : List Nat} (h : (a, 2, b) ∈ E) (t : Pth E b w c) : Pth E a w c
  | lt {a b c l : Nat} {w : List Nat} (h : (a, l, b) ∈ E) (hl : l < 2) (t : Pth E b w c) : Pth E a (l :: w) c
theorem Pth.app {E : List Edge} {a b c : Nat} {u v : List Nat} (h : Pth E a u b) (h2 : Pth E b v c) : Pth E a (u ++ v) c := by
  induction h with
  | nil a => exact h2
  | sil h t ih => exact .sil h (ih h2)
  | lt h hl t ih => exact .lt h hl (ih h2)
theorem Pth.cut {E : List Edge} {a c : Nat} : ∀ {w : List Nat}, Pth E a w c → ∀ l u, w = l :: u → ∃ b b', Pth E a [] b ∧ (b, l, b') ∈ E ∧ l < 2 ∧ Pth E b' u c := by
  intro w h
  induction h with
  | nil a => intro l u e; cases e
  | sil h t ih =>
    intro l u e
    obtain ⟨b, b', h1, h2, h3, h4⟩ := ih l u e
    exact ⟨b, b', .sil h h1, h2, h3, h4⟩
  | lt h hl t ih =>
    intro l u e
    cases e
    exact ⟨_, _, .nil _, h, hl, t⟩
theorem Pth.bd {E : List Edge} {n : Nat} (hE : ∀ e ∈ E, e.2.2 < n) {a c : Nat} {w : List Nat} (h : Pth E a w c) (ha : a < n) : c < n := by
  induction h with
  | nil a => exact ha
  | sil h t ih => exact ih (hE _ h)
  | lt h hl t ih => exact ih (hE _ h)
open Classical in
noncomputable def spF (n : Nat) (E : List Edge) (S : List Nat) : List Nat := (List.range n).filter fun b => decide (∃ a ∈ S, Pth E a [] b)
def sucF (E : List Edge) (T : List Nat) (l : Nat) : List Nat := (E.filter fun e => decide (e.1 ∈ T) && decide (e.2.1 = l)).map fun e => e.2.2
noncomputable def stF (n : Nat) (E : List Edge) (T : List Nat) (l : Nat) : List Nat := spF n E (sucF E T l)
theorem mem_sucF {E : List Edge} {T : List Nat} {l b : Nat} : b ∈ sucF E T l ↔ ∃ a ∈ T, (a, l, b) ∈ E := by
  simp only [sucF, List.mem_map, List.mem_filter, Bool.and_eq_true, decide_eq_true_eq]
  constructor
  · rintro ⟨⟨a, l', b'⟩, ⟨h1, h2, h3⟩, rfl⟩
    cases h3
    exact ⟨a, h2, h1⟩
  · rintro ⟨a, h1, h2⟩
    exact ⟨(a, l, b), ⟨h2, h1, rfl⟩, rfl⟩
theorem mem_spF {n : Nat} {E : List Edge} {S : List Nat} (hE : ∀ e ∈ E, e.2.2 < n) (hS : ∀ s ∈ S, s < n) {b : Nat} : b ∈ spF n E S ↔ ∃ a ∈ S, Pth E a [] b := by
  simp only [spF, List.mem_filter, List.mem_range, decide_eq_true_eq]
  exact ⟨fun h => h.2, fun ⟨a, h1, h2⟩ => ⟨h2.bd hE (hS a h1), a, h1, h2⟩⟩
theorem spF_asc (n : Nat) (E : List Edge) (S : List Nat) : GsOk n (spF n E S) := ⟨List.Pairwise.sublist List.filter_sublist List.pairwise_lt_range, fun x hx => List.mem_range.mp (List.mem_filter.mp hx).1⟩
theorem mem_run {n : Nat} {E : List Edge} (hE : ∀ e ∈ E, e.2.2 < n) : ∀ (w : List Nat), Bw w → ∀ (S : List Nat), (∀ s ∈ S, s < n) → ∀ c, c ∈ w.foldl (stF n E) (spF n E S) ↔ ∃ a ∈ S, Pth E a w c
  | [], _, S, hS, c => mem_spF hE hS
  | l :: w, hw, S, hS, c => by
    have hl := hw l List.mem_cons_self
    have hS' : ∀ s ∈ sucF E (spF n E S) l, s < n := fun s hs => by
      obtain ⟨a, _, h⟩ := mem_sucF.mp hs
      exact hE _ h
    rw [List.foldl_cons]
    have ih := mem_run hE w (fun x hx => hw x (List.mem_cons_of_mem _ hx)) (sucF E (spF n E S) l) hS' c
    refine ih.trans ?_
    constructor
    · rintro ⟨b', h1, h2⟩
      obtain ⟨b, hb, he⟩ := mem_sucF.mp h1
      obtain ⟨a, ha, hp⟩ := (mem_spF hE hS).mp hb
      exact ⟨a, ha, hp.app (.lt he hl h2)⟩
    · rintro ⟨a, ha, hp⟩
      obtain ⟨b, b', h1, h2, h3, h4⟩ := hp.cut l w rfl
      exact ⟨b', mem_sucF.mpr ⟨b, (mem_spF hE hS).mpr ⟨a, ha, h1⟩, h2⟩, h4⟩
/-- ascending lists of the same members -/
theorem ascN_ext : ∀ {a b : List Nat}, a.Pairwise (· < ·) → b.Pairwise (· < ·) → (∀ k, k ∈ a ↔ k ∈ b) → a = b
  | [], [], _, _, _ => rfl
  | [], y :: b, _, _, h => absurd ((h y).mpr List.mem_cons_self) (by simp)
  | x :: a, [], _, _, h => absurd ((h x).mp List.mem_cons_self) (by simp)
  | x :: a, y :: b, ha, hb, h => by
    obtain ⟨a1, a2⟩ := List.pairwise_cons.mp ha
    obtain ⟨b1, b2⟩ := List.pairwise_cons.mp hb
    have e : x = y := by
      rcases List.mem_cons.mp ((h x).mp List.mem_cons_self) with e | e
      · exact e
      · rcases List.mem_cons.mp ((h y).mpr List.mem_cons_self) with e2 | e2
        · exact e2.symm
        · have := b1 x e; have := a1 y e2; omega
    subst e
    congr 1
    refine ascN_ext a2 b2 fun k => ⟨fun hk => ?_, fun hk => ?_⟩
    · rcases List.mem_cons.mp ((h k).mp (List.mem_cons_of_mem _ hk)) with e | e
      · subst e; have := a1 k hk; omega
      · exact e
    · rcases List.mem_cons.mp ((h k).mpr (List.mem_cons_of_mem _ hk)) with e | e
      · subst e; have := b1 k hk; omega
      · exact e
/-- all ascending lists of numbers below n -/
def subsN : Nat → List (List Nat)
  | 0 => [[]]
  | n + 1 => subsN n ++ (subsN n).map (· ++ [n])
theorem subsN_len : ∀ n, (subsN n).length = 2 ^ n
  | 0 => rfl
  | n + 1 => by rw [subsN, List.length_append, List.length_map, subsN_len n, Nat.pow_succ]; omega
theorem mem_subsN : ∀ {n : Nat} {T : List Nat}, GsOk n T → T ∈ subsN n
  | 0, T, h => by
    have : T = [] := List.eq_nil_iff_forall_not_mem.mpr fun x hx => by have := h.2 x hx; omega
    subst this
    exact List.mem_singleton.mpr rfl
  | n + 1, T, h => by
    rw [subsN, List.mem_append]
    by_cases c : n ∈ T
    · right
      have hne : T ≠ [] := fun e => by rw [e] at c; cases c
      have e := List.dropLast_concat_getLast hne
      have hp := h.1
      rw [← e, List.pairwise_append] at hp
      have hlast : T.getLast hne = n := by
        have h1 := h.2 _ (List.getLast_mem hne)
        rw [← e, List.mem_append] at c
        rcases c with c | c
        · have := hp.2.2 n c _ (List.mem_singleton.mpr rfl); omega
        · exact (List.mem_singleton.mp c).symm
      refine List.mem_map.mpr ⟨T.dropLast, mem_subsN ⟨hp.1, fun x hx => ?_⟩, ?_⟩
      · have := hp.2.2 x hx _ (List.mem_singleton.mpr rfl); omega
      · show T.dropLast ++ [n] = T
        rw [← hlast]; exact e
    · left
      refine mem_subsN ⟨h.1, fun x hx => ?_⟩
      have := h.2 x hx
      rcases Nat.lt_or_ge x n with q | q
      · exact q
      · have : x = n := by omega
        subst this
        exact absurd hx c

open PySem
/-! ### sets of edges -/
def edI (e : Edge) : List Int := [(e.1 : Int), (e.2.1 : Int), (e.2.2 : Int)]
theorem edI_inj {e f : Edge} (h : edI e = edI f) : e = f := by
  obtain ⟨a, b, c⟩ := e
  obtain ⟨a', b', c'⟩ := f
  simp only [edI, List.cons.injEq, and_true] at h
  obtain ⟨h1, h2, h3⟩ := h
  have : a = a' := by omega
  have : b = b' := by omega
  have : c = c' := by omega
  simp [*]
theorem tupsD_ed (E : List Edge) : tupsD (E.map ed) = some (E.map edI) := by
  induction E with
  | nil => rfl
  | cons e E ih =>
    have e1 : tupsD (ed e :: E.map ed) = (intsD [nI e.1, nI e.2.1, nI e.2.2]).bind fun ns => (tupsD (E.map ed)).map (ns :: ·) := rfl
    have e2 : intsD [nI e.1, nI e.2.1, nI e.2.2] = some (edI e) := rfl
    rw [List.map_cons, List.map_cons, e1, e2, Option.bind_some, ih]
    rfl
theorem okTs_ed {E : List Edge} (h1 : E.length < 64) (h2 : ∀ e ∈ E, e.1 < 1000 ∧ e.2.1 < 1000 ∧ e.2.2 < 1000) : okTs (E.map edI) = true := by
  unfold okTs
  simp only [Bool.and_eq_true, decide_eq_true_eq, List.all_eq_true, List.length_map]
  refine ⟨h1, fun t ht => ?_⟩
  obtain ⟨e, he, rfl⟩ := List.mem_map.mp ht
  cases E with
  | nil => cases he
  | cons e0 E =>
    refine ⟨⟨rfl, by show 1 ≤ 3; decide⟩, fun x hx => ?_⟩
    obtain ⟨q1, q2, q3⟩ := h2 e he
    simp only [edI, List.mem_cons, List.not_mem_nil, or_false] at hx
    rcases hx with rfl | rfl | rfl <;> omega
theorem edI_ok {e : Edge} (h : e.1 < 1000 ∧ e.2.1 < 1000 ∧ e.2.2 < 1000) : OkT 3 (edI e) := by
  refine ⟨rfl, fun x hx => ?_⟩
  simp only [edI, List.mem_cons, List.not_mem_nil, or_false] at hx
  rcases hx with rfl | rfl | rfl <;> omega
theorem sset_edges {E : List Edge} (hne : E ≠ []) (h1 : E.length < 64) (h2 : ∀ e ∈ E, e.1 < 1000 ∧ e.2.1 < 1000 ∧ e.2.2 < 1000) : ∃ E' : List Edge, ssetD (.tuple (E.map ed)) = some (.list (E'.map ed)) ∧ ssetD (.list (E.map ed)) = some (.list (E'.map ed)) ∧ (∀ e, e ∈ E' ↔ e ∈ E) ∧ E'.length ≤ E.length ∧ AscT (E'.map edI) := by
  have i0 : intsD (E.map ed) = none := by
    cases E with
    | nil => exact absurd rfl hne
    | cons e E => rfl
  have inv : ∀ t ∈ sortT (E.map edI), ∃ e ∈ E, edI e = t := fun t ht => List.mem_map.mp ((mem_sortT t _).mp ht)
  have key : ∀ l : List (List Int), (∀ t ∈ l, ∃ e ∈ E, edI e = t) → ∃ E' : List Edge, l = E'.map edI := fun l => by
    induction l with
    | nil => exact fun _ => ⟨[], rfl⟩
    | cons t l ih =>
      intro h
      obtain ⟨e, _, rfl⟩ := h t List.mem_cons_self
      obtain ⟨E', rfl⟩ := ih fun t ht => h t (List.mem_cons_of_mem _ ht)
      exact ⟨e :: E', rfl⟩
  obtain ⟨E', hE'⟩ := key _ inv
  have asc := asc_sortT (d := 3) (E.map edI) fun t ht => by
    obtain ⟨e, he, rfl⟩ := List.mem_map.mp ht
    exact edI_ok (h2 e he)
  have mem : ∀ e, e ∈ E' ↔ e ∈ E := fun e => by
    constructor
    · intro h
      have : edI e ∈ sortT (E.map edI) := by rw [hE']; exact List.mem_map.mpr ⟨e, h, rfl⟩
      obtain ⟨e', h1, h2⟩ := inv _ this
      rw [← edI_inj h2]; exact h1
    · intro h
      have : edI e ∈ sortT (E.map edI) := (mem_sortT _ _).mpr (List.mem_map.mpr ⟨e, h, rfl⟩)
      rw [hE'] at this
      obtain ⟨e', h1, h2⟩ := List.mem_map.mp this
      rw [← edI_inj h2]; exact h1
  have e1 : ssetL (E.map ed) = some (.list (E'.map ed)) := by
    unfold ssetL
    rw [i0]
    dsimp only
    rw [tupsD_ed]
    dsimp only
    rw [if_pos (okTs_ed h1 h2), hE', List.map_map]
    rfl
  have nd : E'.Nodup := by
    rw [hE'] at asc
    exact (List.pairwise_map.mp asc).imp fun {a b} h e => by subst e; omega
  refine ⟨E', e1, e1, mem, nodup_len _ _ nd fun e he => (mem e).mp he, by rw [← hE']; exact asc⟩
theorem edD_cat {E F : List Edge} (z : E.length + F.length ≤ 100000) : bopD .add (edD E) (edD F) = some (edD (E ++ F)) := by
  have big : (100000 : Nat) ≤ sizeLine := by decide
  have e := bop_tup (E.map ed) (F.map ed) (by rw [List.length_map, List.length_map]; omega)
  rw [e, ← List.map_append]
def trE (e : Edge) : Edge := (e.2.2, e.2.1, e.1)
theorem srt_edges {E : List Edge} (hne : E ≠ []) (h1 : E.length < 64) (h2 : ∀ e ∈ E, e.1 < 1000 ∧ e.2.1 < 1000 ∧ e.2.2 < 1000) : ∃ E' : List Edge, srtD (.list (E.map ed)) = some (.list (E'.map ed)) ∧ (∀ e, e ∈ E' ↔ e ∈ E) ∧ E'.length = E.length := by
  have i0 : intsD (E.map ed) = none := by
    cases E with
    | nil => exact absurd rfl hne
    | cons e E => rfl
  have pm := perm_sortP (E.map edI)
  have inv : ∀ t ∈ sortP (E.map edI), ∃ e ∈ E, edI e = t := fun t ht => List.mem_map.mp (pm.mem_iff.mp ht)
  have key : ∀ l : List (List Int), (∀ t ∈ l, ∃ e ∈ E, edI e = t) → ∃ E' : List Edge, l = E'.map edI := fun l => by
    induction l with
    | nil => exact fun _ => ⟨[], rfl⟩
    | cons t l ih =>
      intro h
      obtain ⟨e, _, rfl⟩ := h t List.mem_cons_self
      obtain ⟨E', rfl⟩ := ih fun t ht => h t (List.mem_cons_of_mem _ ht)
      exact ⟨e :: E', rfl⟩
  obtain ⟨E', hE'⟩ := key _ inv
  refine ⟨E', ?_, fun e => ⟨fun h => ?_, fun h => ?_⟩, ?_⟩
  · unfold srtD
    dsimp only
    rw [i0]
    dsimp only
    rw [tupsD_ed]
    dsimp only
    rw [if_pos (okTs_ed h1 h2), hE', List.map_map]
    rfl
  · have : edI e ∈ sortP (E.map edI) := by rw [hE']; exact List.mem_map.mpr ⟨e, h, rfl⟩
    obtain ⟨e', h1, h2⟩ := inv _ this
    rw [← edI_inj h2]; exact h1
  · have : edI e ∈ sortP (E.map edI) := pm.mem_iff.mpr (List.mem_map.mpr ⟨e, h, rfl⟩)
    rw [hE'] at this
    obtain ⟨e', h1, h2⟩ := List.mem_map.mp this
    rw [← edI_inj h2]; exact h1
  · have := pm.length_eq
    rw [hE', List.length_map, List.length_map] at this
    exact this
theorem Pth.app_sil {E : List Edge} {a b c : Nat} (h : Pth E a [] b) (h2 : (b, 2, c) ∈ E) : Pth E a [] c := by
  have := h.app (.sil h2 (.nil c))
  simpa using this
theorem sset_edges2 {E : List Edge} (h1 : E.length < 64) (h2 : ∀ e ∈ E, e.1 < 1000 ∧ e.2.1 < 1000 ∧ e.2.2 < 1000) : ∃ E' : List Edge, ssetD (.tuple (E.map ed)) = some (.list (E'.map ed)) ∧ ssetD (.list (E.map ed)) = some (.list (E'.map ed)) ∧ (∀ e, e ∈ E' ↔ e ∈ E) ∧ E'.length ≤ E.length ∧ AscT (E'.map edI) := by
  by_cases c : E = []
  · subst c
    exact ⟨[], rfl, rfl, fun e => Iff.rfl, Nat.le_refl _, .nil⟩
  · exact sset_edges c h1 h2
theorem ascT_nodup {E : List Edge} (h : AscT (E.map edI)) : E.Nodup :=
  (List.pairwise_map.mp h).imp fun {a b} h e => by subst e; omega
theorem ascE_ext {E F : List Edge} (h1 : AscT (E.map edI)) (h2 : AscT (F.map edI)) (h : ∀ e, e ∈ E ↔ e ∈ F) : E = F := by
  have e := ascT_ext h1 h2 fun t => by
    constructor
    · intro q
      obtain ⟨e, he, rfl⟩ := List.mem_map.mp q
      exact List.mem_map.mpr ⟨e, (h e).mp he, rfl⟩
    · intro q
      obtain ⟨e, he, rfl⟩ := List.mem_map.mp q
      exact List.mem_map.mpr ⟨e, (h e).mpr he, rfl⟩
  have inj : ∀ {a b : List Edge}, a.map edI = b.map edI → a = b := by
    intro a
    induction a with
    | nil => intro b q; cases b with
      | nil => rfl
      | cons y b => cases q
    | cons x a ih => intro b q; cases b with
      | nil => cases q
      | cons y b =>
        rw [List.map_cons, List.map_cons, List.cons.injEq] at q
        rw [edI_inj q.1, ih q.2]
  exact inj e
theorem srt_edges2 {E : List Edge} (h1 : E.length < 64) (h2 : ∀ e ∈ E, e.1 < 1000 ∧ e.2.1 < 1000 ∧ e.2.2 < 1000) (nd : E.Nodup) : ∃ E' : List Edge, srtD (.list (E.map ed)) = some (.list (E'.map ed)) ∧ (∀ e, e ∈ E' ↔ e ∈ E) ∧ E'.length = E.length ∧ AscT (E'.map edI) := by
  by_cases c : E = []
  · subst c
    exact ⟨[], rfl, fun e => Iff.rfl, rfl, .nil⟩
  · have pm := perm_sortP (E.map edI)
    have ok : ∀ t ∈ E.map edI, OkT 3 t := fun t ht => by
      obtain ⟨e, he, rfl⟩ := List.mem_map.mp ht
      exact edI_ok (h2 e he)
    have le := le_sortP (d := 3) (E.map edI) ok
    have nd2 : (sortP (E.map edI)).Nodup := pm.symm.nodup (by
      refine List.pairwise_map.mpr (nd.imp fun {a b} h e => h (edI_inj e)))
    have asc : AscT (sortP (E.map edI)) := by
      refine (le.and nd2).imp_of_mem fun {a b} ha hb h => ?_
      have := cd_inj (ok a (pm.mem_iff.mp ha)) (ok b (pm.mem_iff.mp hb))
      rcases Nat.lt_or_ge 0 1 with _ | _
      · have h1 := h.1
        have h2 : cd a ≠ cd b := fun e => h.2 (this e)
        omega
      · omega
    have inv : ∀ t ∈ sortP (E.map edI), ∃ e ∈ E, edI e = t := fun t ht => List.mem_map.mp (pm.mem_iff.mp ht)
    have key : ∀ l : List (List Int), (∀ t ∈ l, ∃ e ∈ E, edI e = t) → ∃ E' : List Edge, l = E'.map edI := fun l => by
      induction l with
      | nil => exact fun _ => ⟨[], rfl⟩
      | cons t l ih =>
        intro h
        obtain ⟨e, _, rfl⟩ := h t List.mem_cons_self
        obtain ⟨E', rfl⟩ := ih fun t ht => h t (List.mem_cons_of_mem _ ht)
        exact ⟨e :: E', rfl⟩
    obtain ⟨E', hE'⟩ := key _ inv
    obtain ⟨E2, s1, s2, s3⟩ := srt_edges c h1 h2
    have i0 : intsD (E.map ed) = none := by
      cases E with
      | nil => exact absurd rfl c
      | cons e E => rfl
    refine ⟨E', ?_, fun e => ⟨fun h => ?_, fun h => ?_⟩, ?_, by rw [← hE']; exact asc⟩
    · unfold srtD
      dsimp only
      rw [i0]
      dsimp only
      rw [tupsD_ed]
      dsimp only
      rw [if_pos (okTs_ed h1 h2), hE', List.map_map]
      rfl
    · have : edI e ∈ sortP (E.map edI) := by rw [hE']; exact List.mem_map.mpr ⟨e, h, rfl⟩
      obtain ⟨e', h1, h2⟩ := inv _ this
      rw [← edI_inj h2]; exact h1
    · have : edI e ∈ sortP (E.map edI) := pm.mem_iff.mpr (List.mem_map.mpr ⟨e, h, rfl⟩)
      rw [hE'] at this
      obtain ⟨e', h1, h2⟩ := List.mem_map.mp this
      rw [← edI_inj h2]; exact h1
    · have := pm.length_eq
      rw [hE', List.length_map, List.length_map] at this
      exact this
theorem geI_lt : ∀ {a b : List Int}, a.length = b.length → geI a b = !ltT a b
  | [], [], _ => rfl
  | [], _ :: _, h => by simp at h
  | _ :: _, [], h => by simp at h
  | x :: a, y :: b, h => by
    have hl : a.length = b.length := by simpa using h
    unfold geI ltT
    rcases Int.lt_trichotomy x y with c | c | c
    · rw [if_neg (by omega), if_pos c]; simp; omega
    · subst c
      rw [if_pos rfl, if_neg (by omega), if_neg (by omega), geI_lt hl]
    · rw [if_neg (by omega), if_neg (by omega), if_pos c]; simp; omega
theorem cmp_ge_ed {e f : Edge} (h1 : e.1 < 1000 ∧ e.2.1 < 1000 ∧ e.2.2 < 1000) (h2 : f.1 < 1000 ∧ f.2.1 < 1000 ∧ f.2.2 < 1000) (h : cd (edI e) < cd (edI f)) : cmpD .ge (ed e) (ed f) = some (.bool false) := by
  have e1 : cmpD .ge (ed e) (ed f) = some (.bool (geI (edI e) (edI f))) := rfl
  rw [e1, geI_lt (show (edI e).length = (edI f).length from rfl), (lt_code (edI_ok h1) (edI_ok h2)).mpr h]
  rfl
/-- a forking machine of the form -/
structure FkOk (n : Nat) (S : List Nat) (E : List Edge) (gs : List Nat) : Prop where
  st : GsOk n S
  gd : GsOk n gs
  to : ∀ e ∈ E, e.1 < n ∧ e.2.1 < 3 ∧ e.2.2 < n
  asc : AscT (E.map edI)
theorem FkOk.low {n : Nat} {S : List Nat} {E : List Edge} {gs : List Nat} (h : FkOk n S E gs) : ∀ e ∈ E, e.2.2 < n := fun e he => (h.to e he).2.2
theorem FkOk.small {n : Nat} {S : List Nat} {E : List Edge} {gs : List Nat} (h : FkOk n S E gs) (hn : n ≤ 1000) : ∀ e ∈ E, e.1 < 1000 ∧ e.2.1 < 1000 ∧ e.2.2 < 1000 := fun e he => by
  obtain ⟨h1, h2, h3⟩ := h.to e he
  omega
open Classical in
/-- the words of a forking machine -/
noncomputable def tkF (S : List Nat) (E : List Edge) (gs : List Nat) (w : List Nat) : Bool := decide (∃ a ∈ S, ∃ c ∈ gs, Pth E a w c)
theorem tkF_iff {S : List Nat} {E : List Edge} {gs w : List Nat} : tkF S E gs w = true ↔ ∃ a ∈ S, ∃ c ∈ gs, Pth E a w c := by
  simp only [tkF, decide_eq_true_eq]

open PySem
/-! ### lists sorted; machines told apart -/
/-- a list sorted, its members states -/
theorem srt_nat {found T : List Nat} (hn : found.Nodup) (hT : T.Pairwise (· < ·)) (h : ∀ c, c ∈ found ↔ c ∈ T) : srtD (.list (found.map nI)) = some (.list (T.map nI)) := by
  have e1 : intsD (found.map nI) = some (found.map fun (n : Nat) => (n : Int)) := by rw [ints_nI]; exact intsD_map' _
  unfold srtD
  dsimp only
  rw [e1]
  dsimp only
  rw [ints_nI T]
  congr 3
  have p1 : (sortI (found.map fun (n : Nat) => (n : Int))).Perm (T.map fun (n : Nat) => (n : Int)) := by
    refine (perm_sortI _).trans (List.Perm.map _ ?_)
    have ndT : T.Nodup := hT.imp fun h => Nat.ne_of_lt h
    exact (List.perm_ext_iff_of_nodup hn ndT).mpr h
  refine perm_ext (le_sortI _) ?_ (fun x _ y _ h1 h2 => by omega) p1
  rw [List.pairwise_map]
  exact hT.imp fun h => by omega
/-- sorted(set(..)) of states -/
theorem sset_nat {n : Nat} (l : List Nat) (hl : l.length ≤ 1000) (hn : n < 64) (h : ∀ x ∈ l, x < n) : ∃ T : List Nat, ssetL (l.map nI) = some (.list (T.map nI)) ∧ T.Pairwise (· < ·) ∧ ∀ s, s ∈ T ↔ s ∈ l := by
  have e1 : intsD (l.map nI) = some (l.map fun (n : Nat) => (n : Int)) := by rw [ints_nI]; exact intsD_map' _
  have pos : ∀ x ∈ sortU (l.map fun (n : Nat) => (n : Int)), ∃ s ∈ l, x = (s : Int) := fun x hx => by
    rw [mem_sortU] at hx
    obtain ⟨s, hs, rfl⟩ := List.mem_map.mp hx
    exact ⟨s, hs, rfl⟩
  have asc := asc_sortU (l.map fun (n : Nat) => (n : Int))
  have eT : sortU (l.map fun (n : Nat) => (n : Int)) = ((sortU (l.map fun (n : Nat) => (n : Int))).map Int.toNat).map fun (n : Nat) => (n : Int) := by
    rw [List.map_map]
    symm
    rw [List.map_congr_left (g := id), List.map_id]
    intro x hx
    obtain ⟨s, _, rfl⟩ := pos x hx
    rfl
  refine ⟨(sortU (l.map fun (n : Nat) => (n : Int))).map Int.toNat, ?_, ?_, fun s => ?_⟩
  · have few : (sortU (l.map fun (n : Nat) => (n : Int))).length < 64 := by
      have := nodup_len (sortU (l.map fun (n : Nat) => (n : Int))) ((List.range n).map fun (n : Nat) => (n : Int)) (asc_nodup asc) fun x hx => by
        obtain ⟨s, hs, rfl⟩ := pos x hx
        exact List.mem_map.mpr ⟨s, List.mem_range.mpr (h s hs), rfl⟩
      rw [List.length_map, List.length_range] at this
      omega
    unfold ssetL
    rw [e1]
    dsimp only
    rw [if_pos ⟨by rw [List.length_map]; exact hl, few⟩, ints_nI, ← eT]
  · rw [List.pairwise_map]
    refine asc.imp_of_mem fun {a b} ha hb hab => ?_
    obtain ⟨s, _, rfl⟩ := pos a ha
    obtain ⟨t, _, rfl⟩ := pos b hb
    omega
  · constructor
    · intro hs
      obtain ⟨x, hx, rfl⟩ := List.mem_map.mp hs
      obtain ⟨s, hs', rfl⟩ := pos x hx
      exact hs'
    · intro hs
      exact List.mem_map.mpr ⟨(s : Int), (mem_sortU _ _).mpr (List.mem_map.mpr ⟨s, hs, rfl⟩), rfl⟩
/-! ### machines told apart -/
def fM (z : List (Nat × Nat) × List Nat) : D := mD z.1 z.2
theorem eqvAll_ap {α : Type} {f : α → D} (h : Apart f) : ∀ xs ys : List α, PyData.eqvAll (xs.map f) (ys.map f) = true ↔ xs = ys
  | [], [] => by simp [PyData.eqvAll]
  | [], y :: ys => by simp [PyData.eqvAll]
  | x :: xs, [] => by simp [PyData.eqvAll]
  | x :: xs, y :: ys => by
    simp only [List.map_cons, PyData.eqvAll, Bool.and_eq_true, h.eq, eqvAll_ap h xs ys, List.cons.injEq]
theorem dp_np (rows : List (Nat × Nat)) : PyData.depthAll (rows.map np) ≤ 2 := by
  induction rows with
  | nil => simp [PyData.depthAll]
  | cons p rows ih =>
    have e : (np p).depth ≤ 2 := by simp [np, PyData.depth, PyData.depthAll, nI]
    simp only [List.map_cons, PyData.depthAll]
    omega
theorem dp_nI (f : List Nat) : PyData.depthAll (f.map nI) = 0 := by
  induction f with
  | nil => simp [PyData.depthAll]
  | cons x f ih => simp [PyData.depthAll, ih, nI, PyData.depth]
theorem ap_fM : Apart fM := by
  refine ⟨fun z z' => ?_, fun z => ?_, fun z => ?_⟩
  · show PyData.eqv (.tuple [.tuple (z.1.map np), .tuple (z.2.map nI)]) (.tuple [.tuple (z'.1.map np), .tuple (z'.2.map nI)]) = true ↔ _
    simp only [PyData.eqv, PyData.eqvAll, Bool.and_eq_true, eqvAll_ap ap_np, eqvAll_ap ap_nI, and_true]
    exact ⟨fun h => Prod.ext h.1 h.2, fun h => by rw [h]; exact ⟨rfl, rfl⟩⟩
  · show PyData.canLay0 (.tuple [.tuple (z.1.map np), .tuple (z.2.map nI)]) = true
    simp only [PyData.canLay0, PyData.canLayAll0, ap_np.lay, ap_nI.lay, Bool.and_self, Bool.and_true]
  · show PyData.depth (.tuple [.tuple (z.1.map np), .tuple (z.2.map nI)]) ≤ 60
    have a := dp_np z.1
    have b := dp_nI z.2
    simp only [PyData.depth, PyData.depthAll]
    omega
theorem ne_lst {α : Type} {f : α → D} (h : Apart f) (xs : List α) : cmpD .ne (.list (xs.map f)) (.list []) = some (.bool (!xs.isEmpty)) := by
  have := eqD_of (x := .list (xs.map f)) (y := .list []) rfl (h.shl xs) shp_lnil
  simp only [cmpD, this, Option.map_some]
  cases xs <;> simp [PyData.eqv, PyData.eqvAll]
theorem eq_mach {r1 r2 : List (Nat × Nat)} {g1 g2 : List Nat} : cmpD .eq (mD r1 g1) (mD r2 g2) = some (.bool (decide ((r1, g1) = (r2, g2)))) := by
  have e := ap_fM.eqD (r1, g1) (r2, g2) rfl
  have e : eqD (mD r1 g1) (mD r2 g2) = _ := e
  simp only [cmpD, e, Option.map_some]

open PySem
/-! ### spread, stepped, made a machine -/
structure Spr (n : Nat) (E : List Edge) (S found : List Nat) : Prop where
  nd : found.Nodup
  lt : ∀ s ∈ found, s < n
  sub : ∀ s ∈ S, s ∈ found
  reach : ∀ s ∈ found, ∃ a ∈ S, Pth E a [] s
theorem Spr.few {n : Nat} {E : List Edge} {S found : List Nat} (b : Spr n E S found) : found.length ≤ n := by
  have := nodup_len found (List.range n) b.nd fun s hs => List.mem_range.mpr (b.lt s hs)
  rwa [List.length_range] at this
theorem Spr.grow {n : Nat} {E : List Edge} {S found : List Nat} (b : Spr n E S found) {a c : Nat} (ha : a ∈ found) (he : (a, 2, c) ∈ E) (hc : c < n) (hn : c ∉ found) : Spr n E S (found ++ [c]) := by
  refine ⟨?_, fun s hs => ?_, fun s hs => List.mem_append_left _ (b.sub s hs), fun s hs => ?_⟩
  · rw [List.nodup_append]
    refine ⟨b.nd, by simp, fun x hx y hy e => hn ?_⟩
    rw [← List.mem_singleton.mp hy, ← e]; exact hx
  · rcases List.mem_append.mp hs with h | h
    · exact b.lt s h
    · rw [List.mem_singleton.mp h]; exact hc
  · rcases List.mem_append.mp hs with h | h
    · exact b.reach s h
    · rw [List.mem_singleton.mp h]
      obtain ⟨x, hx, hp⟩ := b.reach a ha
      exact ⟨x, hx, hp.app_sil he⟩
/-- states whose silent edges were followed -/
def Sdone (E : List Edge) (found : List Nat) (k : Nat) : Prop := ∀ i s, i < k → found[i]? = some s → ∀ c, (s, 2, c) ∈ E → c ∈ found
theorem Spr.all {n : Nat} {E : List Edge} {S found : List Nat} (hE : ∀ e ∈ E, e.2.2 < n) (hS : ∀ s ∈ S, s < n) (b : Spr n E S found) (d : Sdone E found found.length) : ∀ c, c ∈ found ↔ c ∈ spF n E S := by
  intro c
  rw [mem_spF hE hS]
  refine ⟨b.reach c, ?_⟩
  rintro ⟨a, ha, hp⟩
  have key : ∀ (w : List Nat) (a c : Nat), Pth E a w c → w = [] → a ∈ found → c ∈ found := by
    intro w a c h
    induction h with
    | nil a => intro _ h; exact h
    | sil h t ih =>
      intro e hm
      obtain ⟨i, hi, e2⟩ := List.getElem_of_mem hm
      exact ih e (d i _ hi (by rw [List.getElem?_eq_getElem hi, e2]) _ h)
    | lt h hl t ih => intro e; cases e
  exact key [] a c hp rfl (b.sub a ha)
section
variable {n : Nat} {S0 gs : List Nat} {E : List Edge}
theorem spread_edges (k : Nat) {μ m : Store} {found S : List Nat} {i s : Nat} {v : D} (hE : ∀ e ∈ E, e.2.2 < n) (up : Up μ m) (c : Cell m μ.length (found.map nI)) (b : Spr n E S found) (hs : found[i]? = some s) (hz : n ≤ 90000) (x4 x5 x6 : Option Val) :
    WS C (G k) (.for_ (.tp [4, 5, 6]) (.seq (.idx (.var 0) (.int 2))) [.ife (.band (.cons (.cmp .eq (.var 4) (.idx (.var 2) (.var 3))) (.cons (.cmp .eq (.var 5) (.con "SILENT" 1)) (.cons (.cmp .nin (.var 6) (.var 2)) .nil)))) [.app (.var 2) (.var 6)] []])
      [some (.d (fkD n S0 E gs)), some (.d v), some (.p μ.length), some (.d (nI i)), x4, x5, x6] m (fun fl ρ m' => fl = .nx ∧ ∃ (found' : List Nat) (x4 x5 x6 : Option Val), Up μ m' ∧ Cell m' μ.length (found'.map nI) ∧ Spr n E S found' ∧ (∀ (j t : Nat), found[j]? = some t → found'[j]? = some t) ∧ (∀ c, (s, 2, c) ∈ E → c ∈ found') ∧
        ρ = [some (.d (fkD n S0 E gs)), some (.d v), some (.p μ.length), some (.d (nI i)), x4, x5, x6]) := by
  have big : (100000 : Nat) < sizeLine := by decide
  have f2 := fk_2 (n := n) (S := S0) (E := E) (gs := gs)
  refine ws_forA (xs := E) (f := ed) (w := edD E) (fun j ρ m' => ∃ (found' : List Nat) (x4 x5 x6 : Option Val), Up μ m' ∧ Cell m' μ.length (found'.map nI) ∧ Spr n E S found' ∧ (∀ (j t : Nat), found[j]? = some t → found'[j]? = some t) ∧ (∀ c, (s, 2, c) ∈ E.take j → c ∈ found') ∧
        ρ = [some (.d (fkD n S0 E gs)), some (.d v), some (.p μ.length), some (.d (nI i)), x4, x5, x6]) ?_ ?_ ?_
  · repeat eq_refl
    exact ⟨⟨rfl, rfl⟩, found, _, _, _, up, c, b, fun _ _ h => h, fun c h => by simp at h, rfl⟩
  · rintro j hj ρ m' ⟨found', x4, x5, x6, up', c', b', sb, dn, rfl⟩
    generalize hej : E[j] = e
    obtain ⟨a, l, t⟩ := e
    refine op rfl ?_
    have hs' := sb i s hs
    have i1 : idxD (.list (found'.map nI)) (nI i) = some (nI s) := by
      have e := at_map nI (List.getElem?_eq_some_iff.mp hs').1
      rw [(List.getElem?_eq_some_iff.mp hs').2] at e
      exact e
    have q1 := cmp_eq_n a s
    have q2 : cmpD .eq (nI l) (.int 2) = some (.bool (decide (l = 2))) := cmp_eq_n l 2
    have q3 := ap_nI.ninL t found'
    have few := b'.few
    have mE : (a, l, t) ∈ E := by rw [← hej]; exact List.getElem_mem hj
    have tk : ∀ c, (s, 2, c) ∈ E.take (j + 1) → (s, 2, c) ∈ E.take j ∨ (s, 2, c) = (a, l, t) := fun c h => by
      rw [List.take_succ_eq_append_getElem hj, List.mem_append, hej] at h
      rcases h with h | h
      · exact .inl h
      · exact .inr (List.mem_singleton.mp h)
    repeat eq_refl
    refine ⟨fun h1 => ?_, fun h1 => ?_⟩
    · repeat eq_refl
      refine ⟨fun h2 => ?_, fun h2 => ?_⟩
      · repeat eq_refl
        refine ⟨fun h3 => ?_, fun h3 => ?_⟩
        · have h1 := of_decide_eq_true h1
          have h2 := of_decide_eq_true h2
          have h3 : t ∉ found' := by simpa using h3
          have g := b'.grow (a := s) (List.mem_of_getElem? hs') (by rw [← h1, ← h2]; exact mE) (hE _ mE) h3
          have fg := g.few
          rw [List.length_append, List.length_singleton] at fg
          refine ws_app rfl c' ?_
          repeat eq_refl
          refine ⟨_, c', by rw [List.length_map]; omega, ?_⟩
          rw [show found'.map nI ++ [nI t] = (found' ++ [t]).map nI by simp]
          repeat eq_refl
          refine ⟨found' ++ [t], _, _, _, up'.set _ (Nat.le_refl _), c'.set _, g, fun j t h => get_app (sb j t h) _, fun c h => ?_, rfl⟩
          rcases tk c h with h | h
          · exact List.mem_append_left _ (dn c h)
          · cases h; simp
        · have h3 : t ∈ found' := by simpa using h3
          repeat eq_refl
          refine ⟨found', _, _, _, up', c', b', sb, fun c h => ?_, rfl⟩
          rcases tk c h with h | h
          · exact dn c h
          · cases h; exact h3
      · have h2 := of_decide_eq_false h2
        repeat eq_refl
        refine ⟨found', _, _, _, up', c', b', sb, fun c h => ?_, rfl⟩
        rcases tk c h with h | h
        · exact dn c h
        · cases h; exact absurd rfl h2
    · have h1 := of_decide_eq_false h1
      repeat eq_refl
      refine ⟨found', _, _, _, up', c', b', sb, fun c h => ?_, rfl⟩
      rcases tk c h with h | h
      · exact dn c h
      · cases h; exact absurd rfl h1
  · rintro ρ m' ⟨found', x4, x5, x6, up', c', b', sb, dn, rfl⟩
    rw [List.take_length] at dn
    exact ⟨rfl, _, _, _, _, up', c', b', sb, dn, rfl⟩
theorem spr_ok (k : Nat) (μ : Store) {S : List Nat} {v : D} (hv : biD .lst v = some (.list (S.map nI))) (hS : ∀ s ∈ S, s < n) (hnd : S.Nodup) (hE : ∀ e ∈ E, e.2.2 < n) (hz : n ≤ 90000) :
    G (k + 1) 9 [.d (fkD n S0 E gs), .d v] μ = some (.d (nd (spF n E S)), μ) := by
  have big : (100000 : Nat) < sizeLine := by decide
  rw [c_spread]
  refine run_get rfl rfl ?_
  refine wss_cons (ws_setM ?_)
  repeat eq_refl
  refine ⟨_, rfl, ?_⟩
  repeat eq_refl
  refine ws_whl (fun q ρ m => ∃ (found : List Nat) (i : Nat) (x4 x5 x6 : Option Val), q = n - i ∧ Up μ m ∧ Cell m μ.length (found.map nI) ∧ Spr n E S found ∧ i ≤ found.length ∧ Sdone E found i ∧ ρ = [some (.d (fkD n S0 E gs)), some (.d v), some (.p μ.length), some (.d (nI i)), x4, x5, x6]) n ?_ ?_
  · exact ⟨S, 0, none, none, none, by simp, (Up.refl μ).app _, Cell.new μ _, ⟨hnd, hS, fun s h => h, fun s h => ⟨s, h, .nil s⟩⟩, by simp, fun i s h => by omega, rfl⟩
  · rintro q ρ m ⟨found, i, x4, x5, x6, rfl, up, c, b, hi, d, rfl⟩
    have few := b.few
    repeat eq_refl
    rw [List.length_map]
    refine ⟨fun hb => ?_, fun hb => ?_⟩
    · have hb := of_decide_eq_false hb
      have e : i = found.length := by omega
      subst e
      have sr := srt_nat (T := spF n E S) b.nd (spF_asc n E S).1 (b.all hE hS d)
      repeat eq_refl
      exact fin_d up ⟨rfl, rfl⟩
    · have hb := of_decide_eq_true hb
      have hb : i < found.length := by omega
      obtain ⟨s, hs⟩ : ∃ s, found[i]? = some s := ⟨_, List.getElem?_eq_getElem hb⟩
      refine wss_cons (ws_mono (spread_edges k hE up c b hs hz x4 x5 x6) ?_)
      rintro fl ρ m' ⟨rfl, found', x4, x5, x6, up', c', b', sb, dn, rfl⟩
      have few' := b'.few
      have hlen : found.length ≤ found'.length := by
        refine nodup_len _ _ b.nd fun x hx => ?_
        obtain ⟨j, hj, e⟩ := List.getElem_of_mem hx
        exact List.mem_of_getElem? (sb j x (by rw [List.getElem?_eq_getElem hj, e]))
      repeat eq_refl
      refine ⟨n - (i + 1), by omega, found', i + 1, x4, x5, x6, rfl, up', c', b', by omega, fun j t hj ht => ?_, rfl⟩
      rcases Nat.lt_or_ge j i with q | q
      · obtain ⟨t0, ht0⟩ : ∃ t0, found[j]? = some t0 := ⟨_, List.getElem?_eq_getElem (by omega)⟩
        have e := sb j t0 ht0
        rw [ht] at e
        cases e
        intro c hc
        have := d j _ q ht0 c hc
        obtain ⟨i2, hi2, e2⟩ := List.getElem_of_mem this
        exact List.mem_of_getElem? (sb i2 c (by rw [List.getElem?_eq_getElem hi2, e2]))
      · have e : j = i := by omega
        subst e
        have e := sb j _ hs
        rw [ht] at e
        cases e
        exact dn
theorem spF_congr {S T : List Nat} (h : ∀ s, s ∈ S ↔ s ∈ T) : spF n E S = spF n E T := by
  unfold spF
  refine List.filter_congr fun b _ => ?_
  congr 1
  exact propext ⟨fun ⟨a, h1, h2⟩ => ⟨a, (h a).mp h1, h2⟩, fun ⟨a, h1, h2⟩ => ⟨a, (h a).mpr h1, h2⟩⟩
theorem stepped_ok (k : Nat) (μ : Store) {T : List Nat} (hE : ∀ e ∈ E, e.2.2 < n) (hE2 : E.length ≤ 1000) (hz : n < 64) {l : Nat} :
    G (k + 2) 10 [.d (fkD n S0 E gs), .d (nd T), .d (nI l)] μ = some (.d (nd (stF n E T l)), μ) := by
  rw [c_stepped]
  refine run_get rfl rfl ?_
  have f2 := fk_2 (n := n) (S := S0) (E := E) (gs := gs)
  obtain ⟨U, hU, hU2, hU3⟩ := sset_nat (n := n) (sucF E T l) (by
    unfold sucF
    rw [List.length_map]
    exact Nat.le_trans (List.length_filter_le _ _) hE2) hz fun x hx => by
      obtain ⟨a, _, h⟩ := mem_sucF.mp hx
      exact hE _ h
  have hU' : ssetD (.list ((sucF E T l).map nI)) = some (.list (U.map nI)) := hU
  repeat eq_refl
  refine we_filtA E ed (fun e => decide (e.1 ∈ T) && decide (e.2.1 = l)) (fun e => nI e.2.2) (v := .d (edD E)) (m := μ) ?_ trivial ?_ ?_
  · repeat eq_refl
    exact ⟨rfl, rfl, rfl⟩
  · rintro ⟨a, q, b⟩ he
    refine op rfl ⟨?_, fun _ => ?_⟩
    · have c1 : cmpD .inn (nI a) (nd T) = some (.bool (decide (a ∈ T))) := ap_nI.inT _ _
      have c2 := cmp_eq_n q l
      refine wcs_one (wt (we_band (wand_pure (b1 := decide (a ∈ T)) (b2 := decide (q = l)) ?_ (fun _ => ?_) ?_)))
      · repeat eq_refl
        exact ⟨rfl, rfl⟩
      · repeat eq_refl
        exact ⟨rfl, rfl⟩
      · repeat eq_refl
        exact ⟨rfl, rfl⟩
    · repeat eq_refl
      exact ⟨rfl, rfl⟩
  · rw [show (E.filter fun e => decide (e.1 ∈ T) && decide (e.2.1 = l)).map (fun e => nI e.2.2) = (sucF E T l).map nI by unfold sucF; rw [List.map_map]; rfl]
    repeat eq_refl
    have sp := spr_ok (gs := gs) (S0 := S0) k μ (S := U) (v := .list (U.map nI)) rfl (fun s hs => by
      obtain ⟨a, _, h⟩ := mem_sucF.mp ((hU3 s).mp hs)
      exact hE _ h) (hU2.imp fun h => Nat.ne_of_lt h) hE (by omega)
    rw [spF_congr hU3] at sp
    refine cl sp ?_
    repeat eq_refl
    exact fin_d (Up.refl _) ⟨rfl, rfl⟩
theorem any_good (k : Nat) (T : List Nat) (m : Store) : G (k + 1) 28 [.d (nd T), .d (fkD n S0 E gs)] m = some (.d (.bool (T.any fun s => decide (s ∈ gs))), m) := by
  rw [c_to_machines_l0]
  refine run_get rfl rfl ?_
  have f3 := fk_3 (n := n) (S := S0) (E := E) (gs := gs)
  repeat eq_refl
  refine we_mapA T nI (fun s => .bool (decide (s ∈ gs))) (v := .d (nd T)) (m := m) ?_ trivial ?_ ?_
  · repeat eq_refl
    exact ⟨rfl, rfl, rfl⟩
  · intro s hs
    have c1 : cmpD .inn (nI s) (nd gs) = some (.bool (decide (s ∈ gs))) := ap_nI.inT _ _
    refine op rfl ?_
    repeat eq_refl
    exact ⟨rfl, rfl⟩
  · have e : biD .any (.list (T.map fun s => .bool (decide (s ∈ gs)))) = some (.bool (T.any fun s => decide (s ∈ gs))) := by
      simp only [biD, boolsD_map, Option.map_some, List.any_map]
      rfl
    repeat eq_refl
    exact fin_d (Up.refl _) ⟨rfl, rfl⟩
/-- the machine of a forking one -/
theorem to_mach_ok (k : Nat) (μ : Store) (hS : GsOk n S0) (hE : ∀ e ∈ E, e.2.2 < n) (hE2 : E.length ≤ 1000) (hz : n ≤ 12) :
    ∃ rows gs', G (k + 5) 11 [.d (fkD n S0 E gs)] μ = some (.d (mD rows gs'), μ) ∧ VM rows gs' ∧ rows.length ≤ 2 ^ n ∧ ∀ w, Bw w → (tkN rows gs' w = true ↔ ∃ a ∈ S0, ∃ c ∈ gs, Pth E a w c) := by
  have pw : 2 ^ n ≤ 2 ^ 12 := Nat.pow_le_pow_right (by decide) hz
  obtain ⟨rows, gs', e, v, hl, hw⟩ := built_ok (f := nd) (s0 := spF n E S0) (st := stF n E) (R := GsOk n) (gd := fun T => T.any fun s => decide (s ∈ gs)) ap_nd (k + 3) μ (N := 2 ^ n)
    (fun l nd h => by rw [← subsN_len]; exact nodup_len _ _ nd fun T hT => mem_subsN (h T hT)) (by omega) (spF_asc n E S0) (fun T l _ _ => spF_asc n E _)
    (js := 27) (jg := 28) (es := [.d (fkD n S0 E gs)]) (eg := [.d (fkD n S0 E gs)]) (fun T l m hT hl => by
      rw [show ([.d (nd T), .d (nI l)] ++ [.d (fkD n S0 E gs)] : List Val) = [.d (nd T), .d (nI l), .d (fkD n S0 E gs)] from rfl, c_to_machines_step]
      refine run_get rfl rfl ?_
      repeat eq_refl
      refine cl (stepped_ok (gs := gs) (S0 := S0) (l := l) k m (T := T) hE hE2 (by omega)) ?_
      repeat eq_refl
      exact fin_d (Up.refl _) ⟨rfl, rfl⟩) (fun T m hT => any_good (k + 2) T m)
  refine ⟨rows, gs', ?_, v, hl, fun w hb => ?_⟩
  · rw [c_to_machines]
    refine run_get rfl rfl ?_
    have f1 := fk_1 (n := n) (S := S0) (E := E) (gs := gs)
    repeat eq_refl
    refine cl (spr_ok (gs := gs) (S0 := S0) (k + 3) μ (S := S0) (v := nd S0) rfl hS.2 (hS.1.imp fun h => Nat.ne_of_lt h) hE (by omega)) ?_
    repeat eq_refl
    refine op rfl (cl e ⟨rfl, ?_⟩)
    repeat eq_refl
    exact fin_d (Up.refl _) ⟨rfl, rfl⟩
  · rw [hw w hb, List.any_eq_true]
    constructor
    · rintro ⟨c, h1, h2⟩
      obtain ⟨a, ha, hp⟩ := (mem_run hE w hb S0 hS.2 c).mp h1
      exact ⟨a, ha, c, of_decide_eq_true h2, hp⟩
    · rintro ⟨a, ha, c, hc, hp⟩
      exact ⟨c, (mem_run hE w hb S0 hS.2 c).mpr ⟨a, ha, hp⟩, decide_eq_true hc⟩
end

open PySem
/-! ### forks of machines -/
def mE (rows : List (Nat × Nat)) : List Edge := (List.range rows.length).flatMap fun a => [0, 1].map fun l => (a, l, stN rows a l)
theorem mem_mE {rows : List (Nat × Nat)} {a l b : Nat} : (a, l, b) ∈ mE rows ↔ a < rows.length ∧ l < 2 ∧ b = stN rows a l := by
  simp only [mE, List.mem_flatMap, List.mem_range, List.mem_map, Prod.mk.injEq]
  constructor
  · rintro ⟨a', h1, l', h2, rfl, rfl, rfl⟩
    refine ⟨h1, ?_, rfl⟩
    simp at h2; omega
  · rintro ⟨h1, h2, rfl⟩
    exact ⟨a, h1, l, by simp; omega, rfl, rfl, rfl⟩
theorem mE_len (rows : List (Nat × Nat)) : (mE rows).length = rows.length * 2 := by
  have : ∀ l : List Nat, (l.flatMap fun a => [0, 1].map fun x => (a, x, stN rows a x)).length = l.length * 2 := fun l => by
    induction l with
    | nil => rfl
    | cons x l ih => rw [List.flatMap_cons, List.length_append, ih]; simp; omega
  rw [mE, this, List.length_range]
theorem mE_lt {rows : List (Nat × Nat)} (h : MN rows) : ∀ e ∈ mE rows, e.1 < rows.length ∧ e.2.1 < 2 ∧ e.2.2 < rows.length := by
  rintro ⟨a, l, b⟩ he
  obtain ⟨h1, h2, rfl⟩ := mem_mE.mp he
  exact ⟨h1, h2, stN_lt h h1 l⟩
theorem fork_of_ok (k : Nat) {rows : List (Nat × Nat)} {gs : List Nat} (h : MN rows) (hz : rows.length ≤ 40000) (μ : Store) : G (k + 1) 12 [.d (mD rows gs)] μ = some (.d (fkD rows.length [0] (mE rows) gs), μ) := by
  have big : (100000 : Nat) < sizeLine := by decide
  rw [c_from_machines_forks]
  refine run_get rfl rfl ?_
  have a0 := mach_0 (rows := rows) (gs := gs)
  have a1 := mach_1 (rows := rows) (gs := gs)
  have lr : biD .len (rowsD rows) = some (nI rows.length) := by simp [nI]
  have ee : ((List.range rows.length).flatMap fun a => (([0, 1] : List Nat).filter fun _ => true).map fun l => ed (a, l, stN rows a l)) = (mE rows).map ed := by
    unfold mE
    rw [List.map_flatMap]
    rfl
  repeat eq_refl
  refine we_comp2A (List.range rows.length) nI (fun _ => [0, 1]) nI (fun _ _ => true) (fun a l => ed (a, l, stN rows a l)) (v := .d .none) (m := μ) ?_ trivial ?_ ?_ ?_
  · repeat eq_refl
    exact ⟨rng_nI _, rfl, rfl⟩
  · rw [ee, List.length_map, mE_len]; omega
  · intro a ha
    have ha := List.mem_range.mp ha
    refine op rfl ⟨?_, fun l hl => op rfl ⟨?_, fun _ => ?_⟩⟩
    · repeat eq_refl
      exact ⟨rfl, trivial, rfl⟩
    · repeat eq_refl
      exact ⟨rfl, rfl⟩
    · have hl : l < 2 := by simp at hl; omega
      have b1 := row_at ha
      have b2 : idxD (np (rows.getD a (0, 0))) (nI l) = some (nI (stN rows a l)) := row_let _ hl
      repeat eq_refl
      exact ⟨rfl, rfl⟩
  · rw [ee]
    repeat eq_refl
    exact fin_d (Up.refl _) ⟨rfl, rfl⟩
/-! ### thinned, padded -/
section
variable {rows : List (Nat × Nat)} {gs : List Nat}
end

open PySem
/-! ### least machines are one -/
def tL (rows : List (Nat × Nat)) (p : Nat) : Nat := stN rows (p / 2) (p % 2)
theorem flR_get {rows : List (Nat × Nat)} {k l : Nat} (hk : k < rows.length) (hl : l < 2) : (flR rows)[2 * k + l]? = some (stN rows k l) := by
  induction rows generalizing k with
  | nil => simp at hk
  | cons p rows ih =>
    have e : flR (p :: rows) = p.1 :: p.2 :: flR rows := by unfold flR; rw [List.flatMap_cons]; rfl
    rw [e]
    cases k with
    | zero =>
      rcases (show l = 0 ∨ l = 1 by omega) with rfl | rfl
      · rfl
      · rfl
    | succ k =>
      rw [show 2 * (k + 1) + l = (2 * k + l) + 1 + 1 by omega, List.getElem?_cons_succ, List.getElem?_cons_succ]
      rw [ih (k := k) (by simpa using hk)]
      rfl
/-- two states of two machines take the same words -/
def Sm (r1 : List (Nat × Nat)) (g1 : List Nat) (i : Nat) (r2 : List (Nat × Nat)) (g2 : List Nat) (j : Nat) : Prop := ∀ w, Bw w → (ledN r1 i w ∈ g1 ↔ ledN r2 j w ∈ g2)
theorem Sm.step {r1 r2 : List (Nat × Nat)} {g1 g2 : List Nat} {i j l : Nat} (h : Sm r1 g1 i r2 g2 j) (hl : l < 2) : Sm r1 g1 (stN r1 i l) r2 g2 (stN r2 j l) := fun w hw => h (l :: w) (bw_cons hl hw)
theorem Sm.symm {r1 r2 : List (Nat × Nat)} {g1 g2 : List Nat} {i j : Nat} (h : Sm r1 g1 i r2 g2 j) : Sm r2 g2 j r1 g1 i := fun w hw => (h w hw).symm
theorem Sm.trans {r1 r2 r3 : List (Nat × Nat)} {g1 g2 g3 : List Nat} {i j k : Nat} (h : Sm r1 g1 i r2 g2 j) (h2 : Sm r2 g2 j r3 g3 k) : Sm r1 g1 i r3 g3 k := fun w hw => (h w hw).trans (h2 w hw)
/-- a least machine, its states in the order of first sight -/
structure Lst (rows : List (Nat × Nat)) (gs : List Nat) : Prop where
  vm : VM rows gs
  can : CanL (flR rows)
  all : AllL (flR rows) rows.length
  red : ∀ i j, i < rows.length → j < rows.length → Sm rows gs i rows gs j → i = j
theorem Lst.before {rows : List (Nat × Nat)} {gs : List Nat} (L : Lst rows gs) {k l q : Nat} (hk : k < rows.length) (hl : l < 2) (h0 : 0 < q) (hq : q < stN rows k l) : ∃ k' l', l' < 2 ∧ 2 * k' + l' < 2 * k + l ∧ k' < rows.length ∧ stN rows k' l' = q := by
  obtain ⟨p', h1, h2⟩ := L.can _ _ (flR_get hk hl) q h0 hq
  refine ⟨p' / 2, p' % 2, Nat.mod_lt _ (by decide), by omega, by omega, ?_⟩
  have := flR_get (rows := rows) (k := p' / 2) (l := p' % 2) (by omega) (Nat.mod_lt _ (by decide))
  rw [show 2 * (p' / 2) + p' % 2 = p' by omega, h2] at this
  cases this
  rfl
theorem Lst.from_ {rows : List (Nat × Nat)} {gs : List Nat} (L : Lst rows gs) {q : Nat} (h0 : 0 < q) (hq : q < rows.length) : ∃ k' l', l' < 2 ∧ k' < q ∧ stN rows k' l' = q := by
  obtain ⟨p', h1, h2⟩ := L.all q h0 hq
  refine ⟨p' / 2, p' % 2, Nat.mod_lt _ (by decide), by omega, ?_⟩
  have := flR_get (rows := rows) (k := p' / 2) (l := p' % 2) (by omega) (Nat.mod_lt _ (by decide))
  rw [show 2 * (p' / 2) + p' % 2 = p' by omega, h2] at this
  cases this
  rfl
section
variable {r1 r2 : List (Nat × Nat)} {g1 g2 : List Nat}
theorem lst_pos (L1 : Lst r1 g1) (L2 : Lst r2 g2) (h : Sm r1 g1 0 r2 g2 0) : ∀ (p k l : Nat), 2 * k + l = p → l < 2 → k < r1.length → (k < r2.length ∧ Sm r1 g1 k r2 g2 k) ∧ stN r1 k l = stN r2 k l := by
  intro p
  induction p using Nat.strongRecOn with
  | ind p ih =>
    intro k l hp hl hk
    have st : k < r2.length ∧ Sm r1 g1 k r2 g2 k := by
      rcases Nat.eq_zero_or_pos k with rfl | h0
      · exact ⟨L2.vm.mn.pos, h⟩
      · obtain ⟨k', l', a1, a2, a3⟩ := L1.from_ h0 hk
        obtain ⟨⟨b1, b2⟩, b3⟩ := ih (2 * k' + l') (by omega) k' l' rfl a1 (by omega)
        have c := b2.step a1
        rw [← b3, a3] at c
        have := stN_lt L2.vm.mn b1 l'
        rw [← b3, a3] at this
        exact ⟨this, c⟩
    refine ⟨st, ?_⟩
    obtain ⟨hk2, sm⟩ := st
    have ab := sm.step hl
    have la := stN_lt L1.vm.mn hk l
    have lb := stN_lt L2.vm.mn hk2 l
    rcases Nat.lt_trichotomy (stN r1 k l) (stN r2 k l) with c | c | c
    · have sa : Sm r1 g1 (stN r1 k l) r2 g2 (stN r1 k l) := by
        rcases Nat.eq_zero_or_pos (stN r1 k l) with e | h0
        · rw [e]; exact h
        · obtain ⟨k', l', a1, a2, a4, a3⟩ := L2.before hk2 hl h0 c
          obtain ⟨⟨b1, b2⟩, b3⟩ := ih (2 * k' + l') (by omega) k' l' rfl a1 (by omega)
          have q := b2.step a1
          rw [b3, a3] at q
          exact q
      exact L2.red _ _ (by omega) lb (sa.symm.trans ab)
    · exact c
    · have sb : Sm r1 g1 (stN r2 k l) r2 g2 (stN r2 k l) := by
        rcases Nat.eq_zero_or_pos (stN r2 k l) with e | h0
        · rw [e]; exact h
        · obtain ⟨k', l', a1, a2, a4, a3⟩ := L1.before hk hl h0 c
          obtain ⟨⟨b1, b2⟩, b3⟩ := ih (2 * k' + l') (by omega) k' l' rfl a1 a4
          have q := b2.step a1
          rw [← b3, a3] at q
          exact q
      exact L1.red _ _ la (by omega) (ab.trans sb.symm)
theorem lst_one (L1 : Lst r1 g1) (L2 : Lst r2 g2) (h : ∀ w, Bw w → tkN r1 g1 w = tkN r2 g2 w) : r1 = r2 ∧ g1 = g2 := by
  have h : Sm r1 g1 0 r2 g2 0 := fun w hw => by
    have := h w hw
    unfold tkN at this
    exact decide_eq_decide.mp this
  have p := lst_pos L1 L2 h
  have p' := lst_pos L2 L1 h.symm
  have len : r1.length = r2.length := by
    have a : r1.length ≤ r2.length := by
      have := L1.vm.mn.pos
      have := (p _ (r1.length - 1) 0 rfl (by decide) (by omega)).1.1
      omega
    have b : r2.length ≤ r1.length := by
      have := L2.vm.mn.pos
      have := (p' _ (r2.length - 1) 0 rfl (by decide) (by omega)).1.1
      omega
    omega
  constructor
  · refine List.ext_getElem len fun k h1 h2 => ?_
    have a := (p _ k 0 rfl (by decide) h1).2
    have b := (p _ k 1 rfl (by decide) h1).2
    unfold stN nth2 at a b
    rw [getD_in h1, getD_in h2] at a b
    exact Prod.ext (by simpa using a) (by simpa using b)
  · refine ascN_ext L1.vm.gk.1 L2.vm.gk.1 fun k => ?_
    constructor
    · intro hk
      have := (p _ k 0 rfl (by decide) (L1.vm.gk.2 k hk)).1.2 [] bw_nil
      exact this.mp hk
    · intro hk
      have := (p' _ k 0 rfl (by decide) (L2.vm.gk.2 k hk)).1.2 [] bw_nil
      exact this.mp hk
end

open PySem
/-! ### machines turned -/
section
variable {rows : List (Nat × Nat)} {gs : List Nat}
theorem tr_path (h : MN rows) {E : List Edge} (hE : ∀ e, e ∈ E ↔ e ∈ (mE rows).map trE) : ∀ {w : List Nat}, Bw w → ∀ {a c : Nat}, c < rows.length → (Pth E a w c ↔ ledN rows c w.reverse = a) := by
  have e1 : ∀ {a l b : Nat}, (a, l, b) ∈ E ↔ b < rows.length ∧ l < 2 ∧ a = stN rows b l := fun {a l b} => by
    rw [hE, List.mem_map]
    constructor
    · rintro ⟨⟨x, y, z⟩, h1, h2⟩
      cases h2
      exact mem_mE.mp h1
    · intro h
      exact ⟨(b, l, a), mem_mE.mpr h, rfl⟩
  intro w hw a c hc
  constructor
  · intro hp
    induction hp with
    | nil a => rfl
    | sil q t ih => have := (e1.mp q).2.1; omega
    | lt q hl t ih =>
      obtain ⟨h1, _, rfl⟩ := e1.mp q
      rw [List.reverse_cons, ledN_app, ih (fun x hx => hw x (List.mem_cons_of_mem _ hx)) hc]
      rfl
  · intro e
    induction w generalizing a with
    | nil => cases e; exact .nil _
    | cons l w ih =>
      have hl := hw l List.mem_cons_self
      have hw' : Bw w := fun x hx => hw x (List.mem_cons_of_mem _ hx)
      rw [List.reverse_cons, ledN_app] at e
      exact .lt (e1.mpr ⟨ledN_lt h w.reverse c hc, hl, e.symm⟩) hl (ih hw' rfl)
end
section
variable {n : Nat} {S0 gs : List Nat} {E : List Edge}
theorem to_mach_bld (k : Nat) (μ : Store) (hS : GsOk n S0) (hE : ∀ e ∈ E, e.2.2 < n) (hE2 : E.length ≤ 1000) (hz : n ≤ 16) :
    ∃ rows gs' seen, G (k + 5) 11 [.d (fkD n S0 E gs)] μ = some (.d (mD rows gs'), μ) ∧ VM rows gs' ∧ rows.length ≤ 2 ^ n ∧ Bld (spF n E S0) (stF n E) (GsOk n) (fun T => T.any fun s => decide (s ∈ gs)) rows gs' seen := by
  have pw : 2 ^ n ≤ 2 ^ 16 := Nat.pow_le_pow_right (by decide) hz
  obtain ⟨rows, gs', e, v, hl, seen, hb⟩ := built_ok2 (f := nd) (s0 := spF n E S0) (st := stF n E) (R := GsOk n) (gd := fun T => T.any fun s => decide (s ∈ gs)) ap_nd (k + 3) μ (N := 2 ^ n)
    (fun l nd h => by rw [← subsN_len]; exact nodup_len _ _ nd fun T hT => mem_subsN (h T hT)) (by omega) (spF_asc n E S0) (fun T l _ _ => spF_asc n E _)
    (js := 27) (jg := 28) (es := [.d (fkD n S0 E gs)]) (eg := [.d (fkD n S0 E gs)]) (fun T l m hT hl => by
      rw [show ([.d (nd T), .d (nI l)] ++ [.d (fkD n S0 E gs)] : List Val) = [.d (nd T), .d (nI l), .d (fkD n S0 E gs)] from rfl, c_to_machines_step]
      refine run_get rfl rfl ?_
      repeat eq_refl
      refine cl (stepped_ok (gs := gs) (S0 := S0) (l := l) k m (T := T) hE hE2 (by omega)) ?_
      repeat eq_refl
      exact fin_d (Up.refl _) ⟨rfl, rfl⟩) (fun T m hT => any_good (k + 2) T m)
  refine ⟨rows, gs', seen, ?_, v, hl, hb⟩
  rw [c_to_machines]
  refine run_get rfl rfl ?_
  have f1 := fk_1 (n := n) (S := S0) (E := E) (gs := gs)
  repeat eq_refl
  refine cl (spr_ok (gs := gs) (S0 := S0) (k + 3) μ (S := S0) (v := nd S0) rfl hS.2 (hS.1.imp fun h => Nat.ne_of_lt h) hE (by omega)) ?_
  repeat eq_refl
  refine op rfl (cl e ⟨rfl, ?_⟩)
  repeat eq_refl
  exact fin_d (Up.refl _) ⟨rfl, rfl⟩
theorem no_sil (h : ∀ e ∈ E, e.2.1 < 2) {a b : Nat} {w : List Nat} (p : Pth E a w b) : w = [] → a = b := by
  induction p with
  | nil a => exact fun _ => rfl
  | sil e t ih => have := h _ e; simp at this
  | lt e hl t ih => exact fun q => nomatch q
theorem mem_fold (hE : ∀ e ∈ E, e.2.2 < n) (hs : ∀ e ∈ E, e.2.1 < 2) : ∀ (w : List Nat), Bw w → ∀ (T : List Nat), GsOk n T → ∀ c, c ∈ w.foldl (stF n E) T ↔ ∃ a ∈ T, Pth E a w c
  | [], _, T, hT, c => by
    constructor
    · exact fun h => ⟨c, h, .nil c⟩
    · rintro ⟨a, ha, p⟩
      rw [← no_sil hs p rfl]; exact ha
  | l :: w, hw, T, hT, c => by
    have hl := hw l List.mem_cons_self
    have sl : ∀ s ∈ sucF E T l, s < n := fun s h => by
      obtain ⟨a, _, e⟩ := mem_sucF.mp h
      exact hE _ e
    have mb : ∀ b, b ∈ stF n E T l ↔ ∃ a ∈ T, (a, l, b) ∈ E := fun b => by
      unfold stF
      rw [mem_spF hE sl]
      constructor
      · rintro ⟨s, h, p⟩
        rw [← no_sil hs p rfl]
        exact mem_sucF.mp h
      · intro h
        exact ⟨b, mem_sucF.mpr h, .nil b⟩
    rw [List.foldl_cons, mem_fold hE hs w (fun x hx => hw x (List.mem_cons_of_mem _ hx)) (stF n E T l) (spF_asc n E _) c]
    constructor
    · rintro ⟨b, hb, p⟩
      obtain ⟨a, ha, e⟩ := (mb b).mp hb
      exact ⟨a, ha, .lt e hl p⟩
    · rintro ⟨a, ha, p⟩
      obtain ⟨b, b', q1, q2, _, q4⟩ := p.cut l w rfl
      have := no_sil hs q1 rfl
      subst this
      exact ⟨b', (mb b').mpr ⟨a, ha, q2⟩, q4⟩
end
/-- all are reached -/
theorem all_reach {rows : List (Nat × Nat)} (h : AllL (flR rows) rows.length) : ∀ q, q < rows.length → ∃ x, Bw x ∧ ledN rows 0 x = q := by
  intro q
  induction q using Nat.strongRecOn with
  | ind q ih =>
    intro hq
    rcases Nat.eq_zero_or_pos q with rfl | h0
    · exact ⟨[], bw_nil, rfl⟩
    · obtain ⟨p, h1, h2⟩ := h q h0 hq
      obtain ⟨x, hx, e⟩ := ih (p / 2) (by omega) (by omega)
      have := flR_get (rows := rows) (k := p / 2) (l := p % 2) (by omega) (Nat.mod_lt _ (by decide))
      rw [show 2 * (p / 2) + p % 2 = p by omega, h2] at this
      refine ⟨x ++ [p % 2], hx.app (bw_cons (Nat.mod_lt _ (by decide)) bw_nil), ?_⟩
      rw [ledN_app, e]
      exact (Option.some.inj this).symm
/-- a machine turned -/
structure Bk (rows : List (Nat × Nat)) (gs : List Nat) (r2 : List (Nat × Nat)) (g2 : List Nat) : Prop where
  vm : VM r2 g2
  few : r2.length ≤ 2 ^ rows.length
  lang : ∀ w, Bw w → tkN r2 g2 w = tkN rows gs w.reverse
  can : CanL (flR r2)
  all : AllL (flR r2) r2.length
  red : (∀ q, q < rows.length → ∃ x, Bw x ∧ ledN rows 0 x = q) → ∀ i j, i < r2.length → j < r2.length → Sm r2 g2 i r2 g2 j → i = j
section
variable {rows : List (Nat × Nat)} {gs : List Nat}
theorem back_core (v : VM rows gs) (k : Nat) (μ : Store) (hz : rows.length ≤ 16) :
    ∃ r2 g2 f1 f2, G (k + 5) 12 [.d (mD rows gs)] μ = some (.d f1, μ) ∧ G (k + 5) 13 [.d f1] μ = some (.d f2, μ) ∧ G (k + 5) 11 [.d f2] μ = some (.d (mD r2 g2), μ) ∧ Bk rows gs r2 g2 := by
  have hp := v.mn.pos
  have ml := mE_len rows
  have mb := mE_lt v.mn
  have tl : ((mE rows).map trE).length = rows.length * 2 := by rw [List.length_map, ml]
  have tb : ∀ e ∈ (mE rows).map trE, e.1 < rows.length ∧ e.2.1 < 2 ∧ e.2.2 < rows.length := fun e he => by
    obtain ⟨e', h1, rfl⟩ := List.mem_map.mp he
    have := mb e' h1
    exact ⟨this.2.2, this.2.1, this.1⟩
  obtain ⟨E', s1, hE', lE⟩ := srt_edges (E := (mE rows).map trE) (fun e => by rw [e] at tl; simp at tl; omega) (by omega) (fun e he => by have := tb e he; omega)
  have lo : ∀ e ∈ E', e.2.2 < rows.length := fun e he => (tb e ((hE' e).mp he)).2.2
  have ns : ∀ e ∈ E', e.2.1 < 2 := fun e he => (tb e ((hE' e).mp he)).2.1
  obtain ⟨r2, g2, seen, e, v2, hl, b⟩ := to_mach_bld (n := rows.length) (S0 := gs) (gs := [0]) (E := E') k μ v.gk lo (by omega) hz
  have ff := fork_of_ok (gs := gs) (k + 4) v.mn (by omega) μ
  have tn : G (k + 5) 13 [.d (fkD rows.length [0] (mE rows) gs)] μ = some (.d (fkD rows.length gs E' [0]), μ) := by
    have f0 := fk_0 (n := rows.length) (S := [0]) (E := mE rows) (gs := gs)
    have f1 := fk_1 (n := rows.length) (S := [0]) (E := mE rows) (gs := gs)
    have f2 := fk_2 (n := rows.length) (S := [0]) (E := mE rows) (gs := gs)
    have f3 := fk_3 (n := rows.length) (S := [0]) (E := mE rows) (gs := gs)
    clear b hl v2 e ff tb mb hE' lE tl lo ns
    rw [c_turned]
    refine run_get rfl rfl ?_
    repeat eq_refl
    refine we_mapA (mE rows) ed (fun e => ed (trE e)) (v := .d (edD (mE rows))) (m := μ) ?_ trivial ?_ ?_
    · repeat eq_refl
      exact ⟨rfl, rfl, rfl⟩
    · rintro ⟨a, l, b⟩ _
      refine op rfl ?_
      repeat eq_refl
      exact ⟨rfl, rfl⟩
    · rw [show (mE rows).map (fun e => ed (trE e)) = ((mE rows).map trE).map ed by rw [List.map_map]; rfl]
      repeat eq_refl
      exact fin_d (Up.refl _) ⟨rfl, rfl⟩
  have acc : ∀ w, Bw w → ∀ i T, seen[i]? = some T → (ledN r2 i w ∈ g2 ↔ ledN rows 0 w.reverse ∈ T) := fun w hw i T h => by
    have h1 := b.led w hw i T h
    have h2 := b.good _ _ h1
    have hT := b.ok T (List.mem_of_getElem? h)
    rw [h2, List.any_eq_true]
    constructor
    · rintro ⟨c, hc, h3⟩
      have h3 := of_decide_eq_true h3
      rw [List.mem_singleton] at h3
      subst h3
      obtain ⟨a, ha, p⟩ := (mem_fold lo ns w hw T hT 0).mp hc
      rw [(tr_path v.mn hE' hw hp).mp p]; exact ha
    · intro h3
      exact ⟨0, (mem_fold lo ns w hw T hT 0).mpr ⟨_, h3, (tr_path v.mn hE' hw hp).mpr rfl⟩, by simp⟩
  refine ⟨r2, g2, _, _, ff, tn, e, v2, hl, fun w hb => ?_, b.can, b.all, fun reach i j hi hj h => ?_⟩
  · have q := acc w hb 0 _ b.z
    unfold tkN
    refine decide_eq_decide.mpr (q.trans ?_)
    rw [mem_spF lo v.gk.2]
    constructor
    · rintro ⟨a, ha, p⟩
      rw [← no_sil ns p rfl]; exact ha
    · intro h
      exact ⟨_, h, .nil _⟩
  · rw [← b.len] at hi hj
    have e1 := List.getElem?_eq_getElem hi
    have e2 := List.getElem?_eq_getElem hj
    have t1 := b.ok _ (List.getElem_mem hi)
    have t2 := b.ok _ (List.getElem_mem hj)
    have same : ∀ s, s < rows.length → (s ∈ seen[i] ↔ s ∈ seen[j]) := fun s hs => by
      obtain ⟨x, hx, ex⟩ := reach s hs
      have hr : Bw x.reverse := fun y hy => hx y (List.mem_reverse.mp hy)
      have a1 := acc x.reverse hr i _ e1
      have a2 := acc x.reverse hr j _ e2
      rw [List.reverse_reverse, ex] at a1 a2
      exact a1.symm.trans ((h _ hr).trans a2)
    have eq := ascN_ext t1.1 t2.1 fun s => ⟨fun hs => (same s (t1.2 s hs)).mp hs, fun hs => (same s (t2.2 s hs)).mpr hs⟩
    exact (List.getElem?_inj hi b.nd).mp (by rw [e1, e2, eq])
theorem back_from (v : VM rows gs) (k : Nat) (μ : Store) (hz : rows.length ≤ 16) : ∃ r2 g2, G (k + 6) 14 [.d (mD rows gs)] μ = some (.d (mD r2 g2), μ) ∧ Bk rows gs r2 g2 := by
  obtain ⟨r2, g2, f1, f2, a, b, c, h⟩ := back_core v k μ hz
  refine ⟨r2, g2, ?_, h⟩
  rw [c_from_machines_backs]
  refine run_get rfl rfl ?_
  refine wss_cons (ws_ret ?_)
  repeat eq_refl
  refine cl a ?_
  repeat eq_refl
  refine cl b ?_
  repeat eq_refl
  refine cl c ?_
  repeat eq_refl
  exact fin_d (Up.refl _) ⟨rfl, rfl⟩
/-- turned twice it is least -/
theorem Bk.lst {r2 r3 : List (Nat × Nat)} {g2 g3 : List Nat} (h : Bk rows gs r2 g2) (h2 : Bk r2 g2 r3 g3) : Lst r3 g3 ∧ ∀ w, Bw w → tkN r3 g3 w = tkN rows gs w := by
  refine ⟨⟨h2.vm, h2.can, h2.all, h2.red (all_reach h.all)⟩, fun w hw => ?_⟩
  rw [h2.lang w hw, h.lang w.reverse (fun x hx => hw x (List.mem_reverse.mp hx)), List.reverse_reverse]
end

open PySem
/-! ### words counted -/
theorem at_rng (f : Nat → D) {a N : Nat} (h : a < N) : idxD (.list ((List.range N).map f)) (nI a) = some (f a) := by
  have e := at_map f (xs := List.range N) (k := a) (by rw [List.length_range]; exact h)
  rw [List.getElem_range] at e
  exact e
theorem sum_nI (xs : List Nat) : biD .sum (.list (xs.map nI)) = some (nI xs.sum) := by
  have e : intsD (xs.map nI) = some (xs.map fun (n : Nat) => (n : Int)) := by rw [ints_nI]; exact intsD_map' _
  have q : (xs.map fun (n : Nat) => (n : Int)).sum = ((xs.sum : Nat) : Int) := by
    induction xs with
    | nil => rfl
    | cons x xs ih =>
      rw [List.map_cons, List.sum_cons, List.sum_cons, ih (by rw [ints_nI]; exact intsD_map' _)]
      omega
  show (intsD (xs.map nI)).map (fun ns => PyData.int ns.sum) = _
  rw [e, Option.map_some, q]
  rfl
theorem rows_map {α : Type} (g : Nat × Nat → α) (rows : List (Nat × Nat)) : rows.map g = (List.range rows.length).map fun s => g (rows.getD s (0, 0)) := by
  apply List.ext_getElem
  · simp
  · intro i h1 h2
    simp at h1
    simp [List.getD_eq_getElem?_getD, h1]
/-- how many words of a length are good from a state -/
def cfN (rows : List (Nat × Nat)) (gs : List Nat) : Nat → Nat → Nat
  | 0, s => if s ∈ gs then 1 else 0
  | n + 1, s => cfN rows gs n (stN rows s 0) + cfN rows gs n (stN rows s 1)
theorem cfN_zero (rows : List (Nat × Nat)) (gs : List Nat) (s : Nat) : cfN rows gs 0 s = if s ∈ gs then 1 else 0 := rfl
theorem cfN_succ (rows : List (Nat × Nat)) (gs : List Nat) (n s : Nat) : cfN rows gs (n + 1) s = cfN rows gs n (stN rows s 0) + cfN rows gs n (stN rows s 1) := rfl
/-- .. shorter than a length, from the state 0 -/
@[irreducible] def preN (rows : List (Nat × Nat)) (gs : List Nat) (n : Nat) : Nat := ((List.range n).map fun L => cfN rows gs L 0).sum
theorem preN_succ (rows : List (Nat × Nat)) (gs : List Nat) (n : Nat) : preN rows gs (n + 1) = preN rows gs n + cfN rows gs n 0 := by
  unfold preN
  rw [List.range_succ, List.map_append, List.sum_append]
  simp
theorem preN_zero (rows : List (Nat × Nat)) (gs : List Nat) : preN rows gs 0 = 0 := by unfold preN; rfl
theorem cf_same' (rows : List (Nat × Nat)) (gs : List Nat) (M : Nat) : biD .sum (.list ((List.range M).map fun L => nI (cfN rows gs L 0))) = some (nI (preN rows gs M)) := by
  have e := sum_nI ((List.range M).map fun L => cfN rows gs L 0)
  rw [List.map_map] at e
  unfold preN
  exact e
theorem preN_mono (rows : List (Nat × Nat)) (gs : List Nat) {a b : Nat} (h : a ≤ b) : preN rows gs a ≤ preN rows gs b := by
  induction h with
  | refl => exact Nat.le_refl _
  | step _ ih => rw [preN_succ]; omega
section
variable {rows : List (Nat × Nat)} {gs : List Nat}
theorem counts_from_ok (h : MN rows) (k n : Nat) (hn : n ≤ 1000) (hz : rows.length ≤ 90000) (μ : Store) : G (k + 1) 5 [.d (mD rows gs), .d (.int n)] μ = some (.d (.list ((List.range rows.length).map fun s => nI (cfN rows gs n s))), μ) := by
  have a0 := mach_0 (rows := rows) (gs := gs)
  have a1 := mach_1 (rows := rows) (gs := gs)
  have lr : biD .len (rowsD rows) = some (.int rows.length) := by simp
  rw [c_counts_from]
  refine run_get rfl rfl ?_
  repeat eq_refl
  refine we_mapA (List.range rows.length) nI (fun s => nI (cfN rows gs 0 s)) (v := .d .none) (m := μ) ?_ trivial ?_ ?_
  · repeat eq_refl
    exact ⟨rng_nI _, rfl, rfl⟩
  · intro s hs
    refine op rfl ?_
    have c := ap_nI.inT s gs
    have c' : cmpD .inn (nI s) (nd gs) = some (.bool (decide (s ∈ gs))) := c
    have b : biD .int (.bool (decide (s ∈ gs))) = some (nI (cfN rows gs 0 s)) := by
      rw [cfN_zero]
      show some (PyData.int (if decide (s ∈ gs) = true then 1 else 0)) = some (PyData.int ((if s ∈ gs then 1 else 0 : Nat) : Int))
      by_cases q : s ∈ gs <;> simp [q]
    repeat eq_refl
    exact ⟨rfl, rfl⟩
  repeat eq_refl
  refine ws_forA (xs := List.range n) (f := nI) (w := .none) (fun j ρ m => m = μ ∧ ∃ x, ρ = [some (.d (mD rows gs)), some (.d (.int n)), some (.d (.list ((List.range rows.length).map fun s => nI (cfN rows gs j s)))), x, none, none, none]) ?_ ?_ ?_
  · repeat eq_refl
    exact ⟨⟨rng_nI n, rfl⟩, rfl, none, rfl⟩
  · rintro j hj ρ m ⟨rfl, x, rfl⟩
    rw [List.length_range] at hj
    rw [List.getElem_range]
    refine op rfl ?_
    repeat eq_refl
    refine we_mapA rows np (fun p => nI (cfN rows gs j p.1 + cfN rows gs j p.2)) (v := .d (rowsD rows)) (m := m) ?_ trivial ?_ ?_
    · repeat eq_refl
      exact ⟨rfl, rfl, rfl⟩
    · intro p hp
      refine op rfl ?_
      have hb := h.to p hp
      have sm : biD .sum (.list ([p.1, p.2].map fun a => nI (cfN rows gs j a))) = some (nI (cfN rows gs j p.1 + cfN rows gs j p.2)) := by
        have e := sum_nI ([p.1, p.2].map fun a => cfN rows gs j a)
        simpa using e
      repeat eq_refl
      refine we_mapA [p.1, p.2] nI (fun a => nI (cfN rows gs j a)) (v := .d (np p)) (m := m) ?_ trivial ?_ ?_
      · repeat eq_refl
        exact ⟨rfl, rfl, rfl⟩
      · intro a ha
        refine op rfl ?_
        have ha2 : a < rows.length := by
          simp only [List.mem_cons, List.not_mem_nil, or_false] at ha
          rcases ha with rfl | rfl
          · exact hb.1
          · exact hb.2
        have i1 := at_rng (fun s => nI (cfN rows gs j s)) ha2
        repeat eq_refl
        exact ⟨rfl, rfl⟩
      · repeat eq_refl
        exact ⟨rfl, rfl⟩
    · repeat eq_refl
      rw [rows_map (fun p => nI (cfN rows gs j p.1 + cfN rows gs j p.2)) rows]
      refine ⟨rfl, some (.d (nI j)), ?_⟩
      simp only [cfN_succ]
      rfl
  · rintro ρ m ⟨rfl, x, rfl⟩
    rw [List.length_range]
    repeat eq_refl
    exact fin_d (Up.refl _) ⟨rfl, rfl⟩
theorem count_ok (h : MN rows) (k n : Nat) (hn : n ≤ 1000) (hz : rows.length ≤ 90000) (μ : Store) : G (k + 2) 6 [.d (mD rows gs), .d (.int n)] μ = some (.d (nI (cfN rows gs n 0)), μ) := by
  rw [c_count]
  refine run_get rfl rfl ?_
  repeat eq_refl
  refine cl (counts_from_ok h k n hn hz μ) ?_
  have i1 : idxD (.list ((List.range rows.length).map fun s => nI (cfN rows gs n s))) (.int 0) = some (nI (cfN rows gs n 0)) := at_rng (fun s => nI (cfN rows gs n s)) (a := 0) h.pos
  repeat eq_refl
  exact fin_d (Up.refl _) ⟨rfl, rfl⟩
end

open PySem
/-! ### words numbered: plain -/
theorem ext2_cons (a : Nat) (w : List Nat) : ext2 (a :: w) = (ext2 w).map (a :: ·) := rfl
theorem flat_cons (a : Nat) : ∀ l : List (List Nat), (l.map (a :: ·)).flatMap ext2 = (l.flatMap ext2).map (a :: ·)
  | [] => rfl
  | w :: l => by rw [List.map_cons, List.flatMap_cons, List.flatMap_cons, List.map_append, flat_cons a l, ext2_cons]
theorem wordsN_cons : ∀ n, wordsN (n + 1) = (wordsN n).map (0 :: ·) ++ (wordsN n).map (1 :: ·)
  | 0 => rfl
  | n + 1 => by
    show (wordsN (n + 1)).flatMap ext2 = _
    rw [wordsN_cons n, List.flatMap_append, flat_cons, flat_cons]
    rw [show (wordsN n).flatMap ext2 = wordsN (n + 1) from rfl, wordsN_cons n]
section
variable {rows : List (Nat × Nat)} {gs : List Nat}
/-- the words of a length that are good from a state, in order -/
def flN (rows : List (Nat × Nat)) (gs : List Nat) (n s : Nat) : List (List Nat) := (wordsN n).filter fun w => decide (ledN rows s w ∈ gs)
theorem flN_succ (n s : Nat) : flN rows gs (n + 1) s = (flN rows gs n (stN rows s 0)).map (0 :: ·) ++ (flN rows gs n (stN rows s 1)).map (1 :: ·) := by
  unfold flN
  rw [wordsN_cons, List.filter_append, List.filter_map, List.filter_map]
  rfl
theorem flN_len : ∀ n s, (flN rows gs n s).length = cfN rows gs n s
  | 0, s => by
    rw [cfN_zero]
    unfold flN
    have e : ledN rows s [] = s := rfl
    by_cases h : s ∈ gs <;> simp [wordsN, e, h]
  | n + 1, s => by
    rw [flN_succ, List.length_append, List.length_map, List.length_map, flN_len, flN_len, cfN_succ]
end

open PySem
/-! ### a table's own equation, by Faddeev's steps: with letters for the entries -/
abbrev Mon := List Nat
abbrev Pol := List (Mon × Int)
def insV (i : Nat) : Mon → Mon
  | [] => [i]
  | j :: m => bif Nat.ble i j then i :: j :: m else j :: insV i m
def monE (r : Nat → Int) : Mon → Int
  | [] => 1
  | i :: m => r i * monE r m
def polE (r : Nat → Int) : Pol → Int
  | [] => 0
  | t :: p => t.2 * monE r t.1 + polE r p
theorem insV_E (r : Nat → Int) (i : Nat) : ∀ m, monE r (insV i m) = r i * monE r m
  | [] => rfl
  | j :: m => by
    unfold insV
    cases Nat.ble i j
    · show r j * monE r (insV i m) = r i * (r j * monE r m)
      rw [insV_E r i m, Int.mul_left_comm]
    · rfl
def cmpL : Mon → Mon → Ordering
  | [], [] => .eq
  | [], _ :: _ => .lt
  | _ :: _, [] => .gt
  | i :: m, j :: m' => bif Nat.beq i j then cmpL m m' else bif Nat.ble i j then .lt else .gt
theorem cmpL_eq : ∀ {m m' : Mon}, cmpL m m' = .eq → m = m'
  | [], [], _ => rfl
  | [], _ :: _, h => nomatch h
  | _ :: _, [], h => nomatch h
  | i :: m, j :: m', h => by
    unfold cmpL at h
    cases e : Nat.beq i j with
    | true =>
      rw [e] at h
      rw [Nat.eq_of_beq_eq_true e, cmpL_eq (m := m) (m' := m') h]
    | false =>
      rw [e] at h
      cases e2 : Nat.ble i j <;> rw [e2] at h <;> exact nomatch h
def mg : Nat → Pol → Pol → Pol
  | 0, p, q => p ++ q
  | _ + 1, [], q => q
  | _ + 1, p, [] => p
  | n + 1, a :: p, b :: q => match cmpL a.1 b.1 with
    | .lt => a :: mg n p (b :: q)
    | .gt => b :: mg n (a :: p) q
    | .eq => bif a.2 + b.2 == 0 then mg n p q else (a.1, a.2 + b.2) :: mg n p q
theorem polE_app (r : Nat → Int) : ∀ p q, polE r (p ++ q) = polE r p + polE r q
  | [], q => by simp [polE]
  | a :: p, q => by
    show a.2 * monE r a.1 + polE r (p ++ q) = a.2 * monE r a.1 + polE r p + polE r q
    rw [polE_app r p q]; omega
theorem mg_E (r : Nat → Int) : ∀ n p q, polE r (mg n p q) = polE r p + polE r q
  | 0, p, q => polE_app r p q
  | _ + 1, [], q => by simp [mg, polE]
  | _ + 1, a :: p, [] => by simp [mg, polE]
  | n + 1, a :: p, b :: q => by
    unfold mg
    cases e : cmpL a.1 b.1 with
    | lt =>
      show a.2 * monE r a.1 + polE r (mg n p (b :: q)) = _
      rw [mg_E r n p (b :: q)]; simp only [polE]; omega
    | gt =>
      show b.2 * monE r b.1 + polE r (mg n (a :: p) q) = _
      rw [mg_E r n (a :: p) q]; simp only [polE]; omega
    | eq =>
      have e := cmpL_eq e
      have ih := mg_E r n p q
      cases z : a.2 + b.2 == 0 with
      | true =>
        have z := eq_of_beq z
        show polE r (mg n p q) = _
        simp only [polE]
        rw [ih, e]
        have : a.2 * monE r b.1 + b.2 * monE r b.1 = 0 := by rw [← Int.add_mul, z, Int.zero_mul]
        omega
      | false =>
        show (a.2 + b.2) * monE r a.1 + polE r (mg n p q) = _
        simp only [polE]
        rw [ih, e, Int.add_mul]
        omega
def addP (p q : Pol) : Pol := mg (p.length + q.length + 1) p q
theorem addP_E (r : Nat → Int) (p q : Pol) : polE r (addP p q) = polE r p + polE r q := mg_E r _ p q
def sumP : List Pol → Pol
  | [] => []
  | p :: l => addP p (sumP l)
theorem sumP_E (r : Nat → Int) : ∀ l, polE r (sumP l) = (l.map (polE r)).sum
  | [] => rfl
  | p :: l => by rw [sumP, addP_E, sumP_E r l, List.map_cons, List.sum_cons]
def mulV (i : Nat) (p : Pol) : Pol := p.map fun t => (insV i t.1, t.2)
theorem mulV_E (r : Nat → Int) (i : Nat) : ∀ p, polE r (mulV i p) = r i * polE r p
  | [] => by simp [mulV, polE]
  | t :: p => by
    show t.2 * monE r (insV i t.1) + polE r (mulV i p) = r i * (t.2 * monE r t.1 + polE r p)
    rw [insV_E, mulV_E r i p, Int.mul_add, Int.mul_left_comm]
/-- a k-th part, contrary: only if it can be parted -/
def ndivP (k : Int) (p : Pol) : Pol := p.map fun t => (t.1, -(t.2 / k))
def divs (k : Int) (p : Pol) : Bool := p.all fun t => t.2 % k == 0
theorem ndivP_E (r : Nat → Int) {k : Int} (hk : 0 < k) : ∀ p, divs k p = true → polE r (ndivP k p) = -polE r p / k := by
  have key : ∀ p, divs k p = true → polE r p = k * -polE r (ndivP k p) := by
    intro p
    induction p with
    | nil => intro _; simp [ndivP, polE]
    | cons t p ih =>
      intro h
      simp only [divs, List.all_cons, Bool.and_eq_true] at h
      have e := eq_of_beq h.1
      have q : t.2 = k * (t.2 / k) := by
        have := Int.mul_ediv_add_emod t.2 k
        omega
      have ih := ih h.2
      show t.2 * monE r t.1 + polE r p = k * -(-(t.2 / k) * monE r t.1 + polE r (ndivP k p))
      rw [ih]
      conv => lhs; rw [q]
      rw [Int.neg_mul, Int.neg_add, Int.neg_neg, Int.mul_add, Int.mul_assoc]
  intro p h
  have e := key p h
  rw [e, ← Int.mul_neg, Int.neg_neg, Int.mul_ediv_cancel_left _ (by omega)]
abbrev PM := List (List Pol)
def pget (M : PM) (a b : Nat) : Pol := (M.getD a []).getD b []
def tabP (n : Nat) (f : Nat → Nat → Pol) : PM := (List.range n).map fun a => (List.range n).map fun b => f a b
theorem pget_tab {n : Nat} (f : Nat → Nat → Pol) {a b : Nat} (ha : a < n) (hb : b < n) : pget (tabP n f) a b = f a b := by
  simp [pget, tabP, List.getD_eq_getElem?_getD, ha, hb]
def pmul (n : Nat) (M : PM) : PM := tabP n fun a b => sumP ((List.range n).map fun c => mulV (a * n + c) (pget M c b))
def ptr (n : Nat) (M : PM) : Pol := sumP ((List.range n).map fun a => pget M a a)
def pone (n : Nat) (M : PM) (q : Pol) : PM := tabP n fun a b => bif a == b then addP (pget M a b) q else pget M a b
def pid (n : Nat) : PM := tabP n fun a b => bif a == b then [([], 1)] else []
/-- the steps: what is left at last, if all could be parted -/
def pgo (n : Nat) : Nat → Nat → PM → Bool
  | 0, _, M => M.all fun row => row.all fun p => p.isEmpty
  | j + 1, k, M =>
    let M1 := pmul n M
    let t := ptr n M1
    divs (k : Int) t && pgo n j (k + 1) (pone n M1 (ndivP (k : Int) t))
/-! the same of integers -/
def mulI (n : Nat) (T H : Nat → Nat → Int) (a b : Nat) : Int := ((List.range n).map fun c => T a c * H c b).sum
def trI (n : Nat) (H : Nat → Nat → Int) : Int := ((List.range n).map fun a => H a a).sum
def ptI (n : Nat) (T H : Nat → Nat → Int) (k : Nat) : Int := -trI n (mulI n T H) / (k : Int)
def stepI (n : Nat) (T H : Nat → Nat → Int) (k : Nat) (a b : Nat) : Int := mulI n T H a b + (if a = b then 1 else 0) * ptI n T H k
def idI (a b : Nat) : Int := if a = b then 1 else 0
/-- what stands before the step k + 1 -/
def herI (n : Nat) (T : Nat → Nat → Int) : Nat → Nat → Nat → Int
  | 0 => idI
  | k + 1 => stepI n T (herI n T k) (k + 1)
theorem sum_ext {l : List Nat} {f g : Nat → Int} (h : ∀ c ∈ l, f c = g c) : (l.map f).sum = (l.map g).sum := by
  rw [List.map_congr_left h]
theorem pgo_ok {n : Nat} {T : Nat → Nat → Int} {r : Nat → Int} (hr : ∀ a c, a < n → c < n → r (a * n + c) = T a c) : ∀ (j k : Nat) (M : PM), (∀ a b, a < n → b < n → polE r (pget M a b) = herI n T k a b) → pgo n j (k + 1) M = true → (M.length = n ∧ ∀ row ∈ M, row.length = n) → ∀ a b, a < n → b < n → herI n T (k + j) a b = 0
  | 0, k, M, hM, h, hl, a, b, ha, hb => by
    simp only [pgo, List.all_eq_true] at h
    rw [Nat.add_zero, ← hM a b ha hb]
    have h1 : M.getD a [] ∈ M := by
      rw [List.getD_eq_getElem?_getD, List.getElem?_eq_getElem (by omega)]
      exact List.getElem_mem _
    have l1 := hl.2 _ h1
    have h2 : (M.getD a []).getD b [] ∈ M.getD a [] := by
      rw [List.getD_eq_getElem?_getD (i := b), List.getElem?_eq_getElem (by omega)]
      exact List.getElem_mem _
    have h3 := h _ h1 _ h2
    rw [List.isEmpty_iff] at h3
    show polE r ((M.getD a []).getD b []) = 0
    rw [h3]; rfl
  | j + 1, k, M, hM, h, hl, a, b, ha, hb => by
    simp only [pgo, Bool.and_eq_true] at h
    obtain ⟨hd, h⟩ := h
    have m1 : ∀ a b, a < n → b < n → polE r (pget (pmul n M) a b) = mulI n T (herI n T k) a b := fun a b ha hb => by
      rw [pmul, pget_tab _ ha hb, sumP_E, List.map_map]
      refine sum_ext fun c hc => ?_
      have hc := List.mem_range.mp hc
      show polE r (mulV (a * n + c) (pget M c b)) = _
      rw [mulV_E, hr a c ha hc, hM c b hc hb]
    have t1 : polE r (ptr n (pmul n M)) = trI n (mulI n T (herI n T k)) := by
      rw [ptr, sumP_E, List.map_map]
      refine sum_ext fun c hc => ?_
      have hc := List.mem_range.mp hc
      exact m1 c c hc hc
    have q1 := ndivP_E r (k := ((k + 1 : Nat) : Int)) (by omega) _ hd
    rw [t1] at q1
    have ih := pgo_ok hr j (k + 1) _ (fun a b ha hb => by
      show polE r (pget (pone n (pmul n M) _) a b) = _
      rw [pone, pget_tab _ ha hb]
      show _ = mulI n T (herI n T k) a b + (if a = b then 1 else 0) * ptI n T (herI n T k) (k + 1)
      by_cases e : a = b
      · subst e
        rw [beq_self_eq_true, if_pos rfl]
        show polE r (addP _ _) = _
        rw [addP_E, m1 a a ha ha, q1, Int.one_mul]; rfl
      · rw [if_neg e, Int.zero_mul, Int.add_zero, ← m1 a b ha hb]
        have : (a == b) = false := by simpa using e
        rw [this]; rfl) h (by
      refine ⟨by simp [pone, tabP], fun row hrow => ?_⟩
      simp only [pone, tabP, List.mem_map] at hrow
      obtain ⟨x, _, rfl⟩ := hrow
      simp) a b ha hb
    rw [show k + (j + 1) = k + 1 + j by omega]
    exact ih
theorem chk1 : pgo 1 1 1 (pid 1) = true := by decide +kernel
theorem chk2 : pgo 2 2 1 (pid 2) = true := by decide +kernel
theorem chk3 : pgo 3 3 1 (pid 3) = true := by decide +kernel
theorem chk4 : pgo 4 4 1 (pid 4) = true := by decide +kernel
theorem chk5 : pgo 5 5 1 (pid 5) = true := by decide +kernel
/-- of a table of up to five rows nothing is left -/
theorem her_zero {n : Nat} (h1 : 1 ≤ n) (h5 : n ≤ 5) (T : Nat → Nat → Int) {a b : Nat} (ha : a < n) (hb : b < n) : herI n T n a b = 0 := by
  have go : pgo n n 1 (pid n) = true := by
    match n, h1, h5 with
    | 1, _, _ => exact chk1
    | 2, _, _ => exact chk2
    | 3, _, _ => exact chk3
    | 4, _, _ => exact chk4
    | 5, _, _ => exact chk5
  have := pgo_ok (n := n) (T := T) (r := fun i => T (i / n) (i % n)) (fun a c ha hc => by
    have e1 : (a * n + c) / n = a := by
      rw [Nat.mul_comm, Nat.mul_add_div (by omega), Nat.div_eq_of_lt hc, Nat.add_zero]
    have e2 : (a * n + c) % n = c := by
      rw [Nat.mul_comm, Nat.mul_add_mod, Nat.mod_eq_of_lt hc]
    show T ((a * n + c) / n) ((a * n + c) % n) = T a c
    rw [e1, e2]) n 0 (pid n) (fun a b ha hb => by
      rw [pid, pget_tab _ ha hb]
      show _ = if a = b then (1 : Int) else 0
      by_cases e : a = b
      · subst e; rw [beq_self_eq_true, if_pos rfl]; simp [polE, monE]
      · rw [if_neg e]
        have : (a == b) = false := by simpa using e
        rw [this]; rfl) go (by
      refine ⟨by simp [pid, tabP], fun row hrow => ?_⟩
      simp only [pid, tabP, List.mem_map] at hrow
      obtain ⟨x, _, rfl⟩ := hrow
      simp) a b ha hb
  rwa [Nat.zero_add] at this
/-- led through a vector -/
def appI (n : Nat) (H : Nat → Nat → Int) (v : Nat → Int) (a : Nat) : Int := ((List.range n).map fun b => H a b * v b).sum
theorem sum_add (l : List Nat) (f g : Nat → Int) : (l.map fun c => f c + g c).sum = (l.map f).sum + (l.map g).sum := by
  induction l with
  | nil => rfl
  | cons x l ih => simp only [List.map_cons, List.sum_cons]; rw [ih]; omega
theorem sum_mul (l : List Nat) (x : Int) (f : Nat → Int) : (l.map fun c => x * f c).sum = x * (l.map f).sum := by
  induction l with
  | nil => simp
  | cons y l ih => simp only [List.map_cons, List.sum_cons]; rw [ih, Int.mul_add]
theorem sum_swap (l l' : List Nat) (f : Nat → Nat → Int) : (l.map fun a => (l'.map fun b => f a b).sum).sum = (l'.map fun b => (l.map fun a => f a b).sum).sum := by
  induction l with
  | nil =>
    induction l' with
    | nil => rfl
    | cons y l' ih => simp only [List.map_cons, List.sum_cons, List.map_nil, List.sum_nil] at ih ⊢; omega
  | cons x l ih =>
    simp only [List.map_cons, List.sum_cons]
    rw [ih, sum_add]
theorem sum_one {n a : Nat} (ha : a < n) (v : Nat → Int) : ((List.range n).map fun b => (if a = b then (1 : Int) else 0) * v b).sum = v a := by
  induction n with
  | zero => omega
  | succ n ih =>
    rw [List.range_succ, List.map_append, List.sum_append, List.map_cons, List.map_nil, List.sum_cons, List.sum_nil, Int.add_zero]
    by_cases e : a = n
    · subst e
      rw [if_pos rfl, Int.one_mul]
      have : ((List.range a).map fun b => (if a = b then (1 : Int) else 0) * v b).sum = 0 := by
        rw [sum_ext (g := fun _ => 0 * 0)]
        · rw [sum_mul]; simp
        · intro c hc
          have := List.mem_range.mp hc
          rw [if_neg (by omega)]; simp
      omega
    · rw [if_neg e, Int.zero_mul, Int.add_zero]
      exact ih (by omega)
theorem app_mul (n : Nat) (T H : Nat → Nat → Int) (v : Nat → Int) (a : Nat) : appI n (mulI n T H) v a = appI n T (appI n H v) a := by
  unfold appI mulI
  have e1 : ((List.range n).map fun b => ((List.range n).map fun c => T a c * H c b).sum * v b).sum = ((List.range n).map fun b => ((List.range n).map fun c => T a c * (H c b * v b)).sum).sum := by
    refine sum_ext fun b _ => ?_
    rw [Int.mul_comm, ← sum_mul]
    refine sum_ext fun c _ => ?_
    rw [Int.mul_comm, Int.mul_assoc]
  rw [e1, sum_swap]
  refine sum_ext fun c _ => ?_
  rw [← sum_mul]
/-- the sum of what was parted, times the vectors of other lengths -/
def prtI (n : Nat) (T : Nat → Nat → Int) (k : Nat) : Int := ptI n T (herI n T (k - 1)) k
def recS (n : Nat) (T : Nat → Nat → Int) (v : Nat → Nat → Int) (N : Nat) (a : Nat) : Nat → Int
  | 0 => v N a
  | k + 1 => ((List.range (k + 1)).map fun i => prtI n T (k + 1 - i) * v (N + i) a).sum + v (N + (k + 1)) a
theorem recS_eq (n : Nat) (T : Nat → Nat → Int) (v : Nat → Nat → Int) (N a : Nat) : ∀ k, recS n T v N a k = ((List.range k).map fun i => prtI n T (k - i) * v (N + i) a).sum + v (N + k) a
  | 0 => by simp [recS]
  | k + 1 => rfl
theorem app_her {n : Nat} {T : Nat → Nat → Int} {v : Nat → Nat → Int} (hv : ∀ j a, a < n → appI n T (v j) a = v (j + 1) a) (N : Nat) : ∀ (k : Nat) {a : Nat}, a < n → appI n (herI n T k) (v N) a = ((List.range k).map fun i => prtI n T (k - i) * v (N + i) a).sum + v (N + k) a
  | 0, a, ha => by
    show ((List.range n).map fun b => (if a = b then (1 : Int) else 0) * v N b).sum = _
    rw [sum_one ha]; simp
  | k + 1, a, ha => by
    have e1 : appI n (herI n T (k + 1)) (v N) a = appI n (mulI n T (herI n T k)) (v N) a + prtI n T (k + 1) * v N a := by
      have : appI n (herI n T (k + 1)) (v N) a = ((List.range n).map fun b => mulI n T (herI n T k) a b * v N b + prtI n T (k + 1) * ((if a = b then (1 : Int) else 0) * v N b)).sum := by
        refine sum_ext fun b _ => ?_
        show (mulI n T (herI n T k) a b + (if a = b then (1 : Int) else 0) * ptI n T (herI n T k) (k + 1)) * v N b = mulI n T (herI n T k) a b * v N b + ptI n T (herI n T k) (k + 1) * ((if a = b then (1 : Int) else 0) * v N b)
        rw [Int.add_mul, Int.mul_comm (if a = b then (1 : Int) else 0) (ptI n T (herI n T k) (k + 1)), Int.mul_assoc]
      rw [this, sum_add, sum_mul, sum_one ha]; rfl
    rw [e1, app_mul]
    have e2 : appI n T (appI n (herI n T k) (v N)) a = appI n T (fun b => ((List.range k).map fun i => prtI n T (k - i) * v (N + i) b).sum + v (N + k) b) a := by
      refine sum_ext fun b hb => ?_
      have := app_her hv N k (List.mem_range.mp hb)
      show T a b * appI n (herI n T k) (v N) b = _
      rw [this]
    rw [e2]
    have e3 : appI n T (fun b => ((List.range k).map fun i => prtI n T (k - i) * v (N + i) b).sum + v (N + k) b) a = ((List.range k).map fun i => prtI n T (k - i) * v (N + (i + 1)) a).sum + v (N + (k + 1)) a := by
      have : appI n T (fun b => ((List.range k).map fun i => prtI n T (k - i) * v (N + i) b).sum + v (N + k) b) a = ((List.range n).map fun b => T a b * ((List.range k).map fun i => prtI n T (k - i) * v (N + i) b).sum + T a b * v (N + k) b).sum := sum_ext fun b _ => Int.mul_add _ _ _
      rw [this, sum_add]
      have h2 : ((List.range n).map fun b => T a b * v (N + k) b).sum = v (N + (k + 1)) a := hv (N + k) a ha
      rw [h2]
      congr 1
      have h3 : ((List.range n).map fun b => T a b * ((List.range k).map fun i => prtI n T (k - i) * v (N + i) b).sum).sum = ((List.range n).map fun b => ((List.range k).map fun i => prtI n T (k - i) * (T a b * v (N + i) b)).sum).sum := by
        refine sum_ext fun b _ => ?_
        rw [← sum_mul]
        refine sum_ext fun i _ => Int.mul_left_comm _ _ _
      rw [h3, sum_swap]
      refine sum_ext fun i _ => ?_
      rw [sum_mul]
      congr 1
      exact hv (N + i) a ha
    rw [e3, List.range_succ_eq_map, List.map_cons, List.sum_cons, List.map_map]
    have e4 : ((List.range k).map ((fun i => prtI n T (k + 1 - i) * v (N + i) a) ∘ Nat.succ)).sum = ((List.range k).map fun i => prtI n T (k - i) * v (N + (i + 1)) a).sum := by
      refine sum_ext fun i hi => ?_
      show prtI n T (k + 1 - (i + 1)) * v (N + (i + 1)) a = _
      rw [Nat.add_sub_add_right]
    rw [e4]
    show _ = prtI n T (k + 1) * v N a + _ + v (N + (k + 1)) a
    omega
/-- the equation of the counts -/
theorem rec_law {n : Nat} (h1 : 1 ≤ n) (h5 : n ≤ 5) {T : Nat → Nat → Int} {v : Nat → Nat → Int} (hv : ∀ j a, a < n → appI n T (v j) a = v (j + 1) a) (N : Nat) {a : Nat} (ha : a < n) : v (N + n) a = ((List.range n).map fun i => -prtI n T (n - i) * v (N + i) a).sum := by
  have e := app_her hv N n ha
  have z : appI n (herI n T n) (v N) a = 0 := by
    have : appI n (herI n T n) (v N) a = ((List.range n).map fun _ => (0 : Int) * 0).sum := by
      refine sum_ext fun b hb => ?_
      rw [her_zero h1 h5 T ha (List.mem_range.mp hb)]; simp
    rw [this, sum_mul]; simp
  rw [z] at e
  have s : ((List.range n).map fun i => -prtI n T (n - i) * v (N + i) a).sum = -((List.range n).map fun i => prtI n T (n - i) * v (N + i) a).sum := by
    have : ((List.range n).map fun i => -prtI n T (n - i) * v (N + i) a).sum = ((List.range n).map fun i => (-1) * (prtI n T (n - i) * v (N + i) a)).sum := sum_ext fun i _ => by rw [Int.neg_mul, Int.neg_mul, Int.one_mul]
    rw [this, sum_mul, Int.neg_mul, Int.one_mul]
  rw [s]; omega

open PySem
/-! ### a table's own equation: the walks -/
def stTab (rows : List (Nat × Nat)) (a b : Nat) : Int := (if stN rows a 0 = b then 1 else 0) + (if stN rows a 1 = b then 1 else 0)
abbrev rowI (n : Nat) (g : Nat → Int) : D := .list ((List.range n).map fun b => .int (g b))
abbrev tabI (n : Nat) (f : Nat → Nat → Int) : D := .list ((List.range n).map fun a => rowI n (f a))
theorem rowI_at {n b : Nat} (g : Nat → Int) (hb : b < n) : idxD (rowI n g) (nI b) = some (.int (g b)) := at_rng (fun b => .int (g b)) hb
theorem tabI_at {n a : Nat} (f : Nat → Nat → Int) (ha : a < n) : idxD (tabI n f) (nI a) = some (rowI n (f a)) := at_rng (fun a => rowI n (f a)) ha
theorem sum_int (n : Nat) (f : Nat → Int) : biD .sum (.list ((List.range n).map fun c => .int (f c))) = some (.int ((List.range n).map f).sum) := by
  have e : intsD ((List.range n).map fun c => PyData.int (f c)) = some ((List.range n).map f) := by
    have : ((List.range n).map fun c => PyData.int (f c)) = ((List.range n).map f).map PyData.int := by rw [List.map_map]; rfl
    rw [this]
    exact intsD_map' _
  show (intsD ((List.range n).map fun c => PyData.int (f c))).map (fun ns => PyData.int ns.sum) = _
  rw [e]; rfl
theorem int_dec (p : Prop) [Decidable p] : biD .int (.bool (decide p)) = some (.int (if p then 1 else 0)) := by
  show some (PyData.int (if decide p = true then 1 else 0)) = _
  by_cases q : p <;> simp [q]
theorem mulOk_l {i : Int} (j : Int) (h : -(2 ^ 64) < i) (h2 : i < 2 ^ 64) : mulOk i j = true := by
  unfold mulOk
  rw [decide_eq_true h, decide_eq_true h2]
  rfl
theorem mul_l {x : Int} (y : Int) (h : -3 < x) (h2 : x < 3) : bopD .mul (.int x) (.int y) = some (.int (x * y)) := bop_mul _ _ (mulOk_l y (by omega) (by omega))
theorem we_bopM {C : Cons} {F : Calls} {ρ : Rho} {μ : Store} {Q : Val → Store → Prop} {o : BOp} {a b : E} {x y z : D} (ha : WE C F a ρ μ fun v m => v = .d x ∧ m = μ) (hb : WE C F b ρ μ fun v m => v = .d y ∧ m = μ) (h : bopD o x y = some z) (q : Q (.d z) μ) : WE C F (.bop o a b) ρ μ Q := by
  refine we_bop (we_mono ha ?_)
  rintro v m ⟨rfl, rfl⟩
  refine we_mono hb ?_
  rintro v m ⟨rfl, rfl⟩
  exact r2 h q
theorem rev_map {β : Type} (f : Nat → β) (n : Nat) : ((List.range n).map f).reverse = (List.range n).map fun i => f (n - 1 - i) := by
  apply List.ext_getElem
  · simp
  · intro i h1 h2
    simp
theorem rng_from1 (n : Nat) : rngD 1 ((n : Int) + 1) = (List.range n).map fun j => nI (j + 1) := by
  unfold rngD
  rw [show (((n : Int) + 1 - 1).toNat) = n by omega]
  refine List.map_congr_left fun j _ => ?_
  show PyData.int _ = PyData.int _
  congr 1
  omega
section
variable {rows : List (Nat × Nat)} {gs : List Nat}
theorem stTab_few (a b : Nat) : -3 < stTab rows a b ∧ stTab rows a b < 3 := by
  unfold stTab
  split <;> split <;> decide
theorem step_table_ok (h : MN rows) (k : Nat) (hz : rows.length ≤ 1000) (μ : Store) : G (k + 1) 7 [.d (mD rows gs)] μ = some (.d (tabI rows.length (stTab rows)), μ) := by
  have a0 := mach_0 (rows := rows) (gs := gs)
  have lr : biD .len (rowsD rows) = some (.int rows.length) := by simp
  rw [c_step_table]
  refine run_get rfl rfl ?_
  repeat eq_refl
  refine we_rgL ?_
  repeat eq_refl
  refine we_mapA (List.range rows.length) nI (fun a => rowI rows.length (stTab rows a)) (v := .d (.list (rngD 0 rows.length))) (m := μ) ?_ trivial ?_ ?_
  · repeat eq_refl
    exact ⟨rng_nI _, rfl, rfl⟩
  · intro a ha
    have ha := List.mem_range.mp ha
    have i1 := row_at ha
    refine op rfl ?_
    refine we_mapA (List.range rows.length) nI (fun b => .int (stTab rows a b)) (v := .d (.list (rngD 0 rows.length))) (m := μ) ?_ trivial ?_ ?_
    · repeat eq_refl
      exact ⟨rng_nI _, rfl, rfl⟩
    · intro b hb
      refine op rfl ?_
      have sm : biD .sum (.list ([0, 1].map fun l => .int (if stN rows a l = b then 1 else 0))) = some (.int (stTab rows a b)) := by
        have e : biD .sum (.list ([0, 1].map fun l => PyData.int (if stN rows a l = b then 1 else 0))) = some (.int ((if stN rows a 0 = b then (1 : Int) else 0) + ((if stN rows a 1 = b then 1 else 0) + 0))) := rfl
        rw [e, Int.add_zero]; rfl
      refine we_bi (we_mapA [0, 1] nI (fun l => .int (if stN rows a l = b then 1 else 0)) (v := .d (.tuple [.int 0, .int 1])) (m := μ) ?_ trivial ?_ ?_)
      · repeat eq_refl
        exact ⟨rfl, rfl, rfl⟩
      · intro l hl
        have hl2 : l < 2 := by
          simp only [List.mem_cons, List.not_mem_nil, or_false] at hl
          omega
        have i2 : idxD (np (rows.getD a (0, 0))) (nI l) = some (nI (stN rows a l)) := row_let _ hl2
        have c : cmpD .eq (nI (stN rows a l)) (nI b) = some (.bool (decide (stN rows a l = b))) := cmp_eq_n _ _
        have d := int_dec (stN rows a l = b)
        refine op rfl ?_
        repeat eq_refl
        exact ⟨rfl, rfl⟩
      · repeat eq_refl
        exact ⟨rfl, rfl⟩
    · exact ⟨rfl, rfl⟩
  · refine ct_ret (fin_d (Up.refl _) ?_)
    exact ⟨rfl, rfl⟩
/-- one turn's table: the product -/
theorem rec_mul (k n : Nat) (T H : Nat → Nat → Int) (hT : ∀ a c, -3 < T a c ∧ T a c < 3) (x0 x2 x5 x6 x7 : Option Val) (m : Store) (Q : Val → Store → Prop) (q : Q (.d (tabI n (mulI n T H))) m) :
    WE C (G k) (.comp [8] (.nm 8) (.seq (.var 3)) .nil (.comp [9] (.nm 9) (.seq (.var 3)) .nil (.bi .sum (.comp [10] (.nm 10) (.seq (.var 3)) .nil (.bop .mul (.idx (.idx (.var 1) (.var 8)) (.var 10)) (.idx (.idx (.var 4) (.var 10)) (.var 9)))))))
      [x0, some (.d (tabI n T)), x2, some (.d (.list (rngD 0 n))), some (.d (tabI n H)), x5, x6, x7, none, none, none] m Q := by
  refine we_mapA (List.range n) nI (fun a => rowI n (mulI n T H a)) (v := .d (.list (rngD 0 n))) (m := m) ?_ trivial ?_ q
  · repeat eq_refl
    exact ⟨rng_nI _, rfl, rfl⟩
  · intro a ha
    have ha := List.mem_range.mp ha
    have i1 := tabI_at T ha
    refine op rfl ?_
    refine we_mapA (List.range n) nI (fun b => .int (mulI n T H a b)) (v := .d (.list (rngD 0 n))) (m := m) ?_ trivial ?_ ⟨rfl, rfl⟩
    · repeat eq_refl
      exact ⟨rng_nI _, rfl, rfl⟩
    · intro b hb
      have hb := List.mem_range.mp hb
      have sm : biD .sum (.list ((List.range n).map fun c => .int (T a c * H c b))) = some (.int (mulI n T H a b)) := sum_int n _
      refine op rfl ?_
      refine we_bi (we_mapA (List.range n) nI (fun c => .int (T a c * H c b)) (v := .d (.list (rngD 0 n))) (m := m) ?_ trivial ?_ ?_)
      · repeat eq_refl
        exact ⟨rng_nI _, rfl, rfl⟩
      · intro c hc
        have hc := List.mem_range.mp hc
        have i2 := rowI_at (T a) hc
        have i3 := tabI_at H hc
        have i4 := rowI_at (H c) hb
        refine op rfl ?_
        refine we_bopM (x := .int (T a c)) (y := .int (H c b)) ?_ ?_ (mul_l _ (hT a c).1 (hT a c).2) ⟨rfl, rfl⟩
        · repeat eq_refl
          exact ⟨rfl, rfl⟩
        · repeat eq_refl
          exact ⟨rfl, rfl⟩
      · repeat eq_refl
        exact ⟨rfl, rfl⟩
/-- .. and what is put on it -/
theorem rec_add (k n : Nat) (H1 : Nat → Nat → Int) (p : Int) (x0 x1 x2 x5 x6 : Option Val) (m : Store) (Q : Val → Store → Prop) (q : Q (.d (tabI n fun a b => H1 a b + (if a = b then 1 else 0) * p)) m) :
    WE C (G k) (.comp [8] (.nm 8) (.seq (.var 3)) .nil (.comp [9] (.nm 9) (.seq (.var 3)) .nil (.bop .add (.idx (.idx (.var 4) (.var 8)) (.var 9)) (.bop .mul (.bi .int (.cmp .eq (.var 8) (.var 9))) (.var 7)))))
      [x0, x1, x2, some (.d (.list (rngD 0 n))), some (.d (tabI n H1)), x5, x6, some (.d (.int p)), none, none, none] m Q := by
  refine we_mapA (List.range n) nI (fun a => rowI n fun b => H1 a b + (if a = b then 1 else 0) * p) (v := .d (.list (rngD 0 n))) (m := m) ?_ trivial ?_ q
  · repeat eq_refl
    exact ⟨rng_nI _, rfl, rfl⟩
  · intro a ha
    have ha := List.mem_range.mp ha
    have i1 := tabI_at H1 ha
    refine op rfl ?_
    refine we_mapA (List.range n) nI (fun b => .int (H1 a b + (if a = b then 1 else 0) * p)) (v := .d (.list (rngD 0 n))) (m := m) ?_ trivial ?_ ⟨rfl, rfl⟩
    · repeat eq_refl
      exact ⟨rng_nI _, rfl, rfl⟩
    · intro b hb
      have hb := List.mem_range.mp hb
      have i2 := rowI_at (H1 a) hb
      have c : cmpD .eq (nI a) (nI b) = some (.bool (decide (a = b))) := cmp_eq_n _ _
      have d := int_dec (a = b)
      refine op rfl ?_
      refine we_bopM (x := .int (H1 a b)) (y := .int ((if a = b then 1 else 0) * p)) ?_ ?_ (bop_add _ _) ⟨rfl, rfl⟩
      · repeat eq_refl
        exact ⟨rfl, rfl⟩
      · refine we_bopM (x := .int (if a = b then 1 else 0)) (y := .int p) ?_ ?_ (mul_l _ (by split <;> decide) (by split <;> decide)) ⟨rfl, rfl⟩
        · repeat eq_refl
          exact ⟨rfl, rfl⟩
        · repeat eq_refl
          exact ⟨rfl, rfl⟩
theorem rec_tr (k n : Nat) (H1 : Nat → Nat → Int) (x0 x1 x2 x5 x6 x7 : Option Val) (m : Store) (Q : Val → Store → Prop) (q : Q (.d (.int (trI n H1))) m) :
    WE C (G k) (.bi .sum (.comp [8] (.nm 8) (.seq (.var 3)) .nil (.idx (.idx (.var 4) (.var 8)) (.var 8))))
      [x0, x1, x2, some (.d (.list (rngD 0 n))), some (.d (tabI n H1)), x5, x6, x7, none, none, none] m Q := by
  have sm : biD .sum (.list ((List.range n).map fun a => .int (H1 a a))) = some (.int (trI n H1)) := sum_int n _
  refine we_bi (we_mapA (List.range n) nI (fun a => .int (H1 a a)) (v := .d (.list (rngD 0 n))) (m := m) ?_ trivial ?_ ?_)
  · repeat eq_refl
    exact ⟨rng_nI _, rfl, rfl⟩
  · intro a ha
    have ha := List.mem_range.mp ha
    have i1 := tabI_at H1 ha
    have i2 := rowI_at (H1 a) ha
    refine op rfl ?_
    repeat eq_refl
    exact ⟨rfl, rfl⟩
  · repeat eq_refl
    exact q
theorem recurrence_ok (h : MN rows) (k : Nat) (hz : rows.length ≤ 1000) (μ : Store) : G (k + 2) 8 [.d (mD rows gs)] μ = some (.d (.tuple ((List.range rows.length).map fun i => .int (-prtI rows.length (stTab rows) (rows.length - i)))), μ) := by
  have big : (100000 : Nat) < sizeLine := by decide
  have st := step_table_ok (gs := gs) h k hz μ
  rw [c_recurrence]
  refine run_get rfl rfl ?_
  generalize hn : rows.length = n at *
  have lt : biD .len (tabI n (stTab rows)) = some (.int n) := by rw [bi_len_l, List.length_map, List.length_range]
  repeat eq_refl
  refine cl st ?_
  repeat eq_refl
  refine we_rgL ?_
  repeat eq_refl
  refine we_mapA (List.range n) nI (fun a => rowI n (idI a)) (v := .d (.list (rngD 0 n))) (m := μ) ?_ trivial ?_ ?_
  · repeat eq_refl
    exact ⟨rng_nI _, rfl, rfl⟩
  · intro a ha
    refine op rfl ?_
    refine we_mapA (List.range n) nI (fun b => .int (idI a b)) (v := .d (.list (rngD 0 n))) (m := μ) ?_ trivial ?_ ⟨rfl, rfl⟩
    · repeat eq_refl
      exact ⟨rng_nI _, rfl, rfl⟩
    · intro b hb
      have c : cmpD .eq (nI a) (nI b) = some (.bool (decide (a = b))) := cmp_eq_n _ _
      have d := int_dec (a = b)
      refine op rfl ?_
      repeat eq_refl
      exact ⟨rfl, rfl⟩
  · refine bd_d (ct_nx (wss_cons (ws_setM ?_)))
    repeat eq_refl
    refine ⟨_, rfl, ?_⟩
    refine ct_nx (wss_cons ?_)
    refine ws_forA (xs := List.range n) (f := fun j => nI (j + 1)) (w := .none) (fun j ρ m => Up μ m ∧ Cell m μ.length ((List.range j).map fun i => .int (-prtI n (stTab rows) (i + 1))) ∧ ∃ x6 x7, ρ = [some (.d (mD rows gs)), some (.d (tabI n (stTab rows))), some (.d (nI n)), some (.d (.list (rngD 0 n))), some (.d (tabI n (herI n (stTab rows) j))), some (.p μ.length), x6, x7, none, none, none]) ?_ ?_ ?_
    · repeat eq_refl
      refine ⟨by
        have big : (100000 : Nat) ≤ sizeLine := by decide
        exact rngOk_small (by omega) (by omega) (by omega) (by omega), ⟨rng_from1 n, rfl⟩, (Up.refl μ).app _, Cell.new μ _, none, none, rfl⟩
    · rintro j hj ρ m ⟨up, c, x6, x7, rfl⟩
      rw [List.length_range] at hj
      rw [List.getElem_range]
      refine op rfl ?_
      refine wss_cons (ws_set (rec_mul (k + 1) n (stTab rows) (herI n (stTab rows) j) stTab_few _ _ _ _ _ _ _ (bd_d (ct_nx ?_))))
      refine wss_cons (ws_set (we_bopM (x := .int (-trI n (mulI n (stTab rows) (herI n (stTab rows) j)))) (y := nI (j + 1)) (z := .int (prtI n (stTab rows) (j + 1))) ?_ ?_ ?_ (bd_d (ct_nx ?_))))
      · refine we_neg (wi (rec_tr (k + 1) n _ _ _ _ _ _ _ _ _ ?_))
        repeat eq_refl
        exact ⟨rfl, rfl⟩
      · repeat eq_refl
        exact ⟨rfl, rfl⟩
      · exact bop_fdiv _ _ (by omega) (by omega)
      refine wss_cons (ws_app rfl c ?_)
      repeat eq_refl
      refine ⟨_, c, by rw [List.length_map, List.length_range]; omega, ?_⟩
      refine ct_nx (wss_cons (ws_set (rec_add (k + 1) n _ _ _ _ _ _ _ _ _ (bd_d (ct_nx ?_)))))
      have e : ((List.range j).map fun i => (.int (-prtI n (stTab rows) (i + 1)) : D)) ++ [.int (-prtI n (stTab rows) (j + 1))] = (List.range (j + 1)).map fun i => .int (-prtI n (stTab rows) (i + 1)) := by
        rw [List.range_succ, List.map_append]; rfl
      rw [e]
      exact ⟨up.set _ (Nat.le_refl _), c.set _, _, _, rfl⟩
    · rintro ρ m ⟨up, c, x6, x7, rfl⟩
      rw [List.length_range] at c ⊢
      have lv : lrvD (.list ((List.range n).map fun i => .int (-prtI n (stTab rows) (i + 1)))) = some (.list ((List.range n).map fun i => .int (-prtI n (stTab rows) (n - i)))) := by
        unfold lrvD
        dsimp only
        rw [if_pos (by rw [List.length_map, List.length_range]; omega), rev_map]
        congr 2
        refine List.map_congr_left fun i hi => ?_
        have hi := List.mem_range.mp hi
        rw [show n - 1 - i + 1 = n - i by omega]
      repeat eq_refl
      exact fin_d up ⟨rfl, rfl⟩
theorem stTab_app (h : MN rows) (gs : List Nat) (j a : Nat) (ha : a < rows.length) : appI rows.length (stTab rows) (fun b => (cfN rows gs j b : Int)) a = (cfN rows gs (j + 1) a : Int) := by
  have e : appI rows.length (stTab rows) (fun b => (cfN rows gs j b : Int)) a = ((List.range rows.length).map fun b => (if stN rows a 0 = b then (1 : Int) else 0) * (cfN rows gs j b : Int) + (if stN rows a 1 = b then (1 : Int) else 0) * (cfN rows gs j b : Int)).sum :=
    sum_ext fun b _ => Int.add_mul _ _ _
  rw [e, sum_add, sum_one (stN_lt h ha 0), sum_one (stN_lt h ha 1), cfN_succ]
  omega
end

open PySem
/-! ### the law -/
def turnS : List S := match m_law.body.getD 1 .pass with
  | .for_ _ _ b => b
  | _ => []
def tailS : List S := match turnS.getD 5 .pass with
  | .for_ _ _ b => b
  | _ => []
theorem cf_words (rows : List (Nat × Nat)) (gs : List Nat) (n : Nat) : cfN rows gs n 0 = ((wordsN n).filter (tkN rows gs)).length := (flN_len n 0).symm
theorem cf_few (rows : List (Nat × Nat)) (gs : List Nat) (n : Nat) : cfN rows gs n 0 ≤ 2 ^ n := by
  rw [cf_words, ← wordsN_len n]
  exact List.length_filter_le _ _
theorem cf_congr {r1 r2 : List (Nat × Nat)} {g1 g2 : List Nat} {n : Nat} (h : ∀ w, Bw w → tkN r1 g1 w = tkN r2 g2 w) : cfN r1 g1 n 0 = cfN r2 g2 n 0 := by
  rw [cf_words, cf_words]
  congr 1
  exact List.filter_congr fun w hw => h w (mem_wordsN.mp hw).2
theorem filter_or_and {α : Type} (p q : α → Bool) : ∀ l : List α, (l.filter fun w => p w || q w).length + (l.filter fun w => p w && q w).length = (l.filter p).length + (l.filter q).length
  | [] => rfl
  | x :: l => by
    have ih := filter_or_and p q l
    cases h1 : p x <;> cases h2 : q x <;> simp [h1, h2] <;> omega
theorem filter_not {α : Type} (p : α → Bool) : ∀ l : List α, (l.filter p).length + (l.filter fun w => !p w).length = l.length
  | [] => rfl
  | x :: l => by
    have ih := filter_not p l
    cases h1 : p x <;> simp [h1] <;> omega
theorem wordsN_nodup : ∀ n, (wordsN n).Nodup
  | 0 => by simp [wordsN]
  | n + 1 => by
    rw [wordsN_cons, List.nodup_append]
    have inj : ∀ a : Nat, ((wordsN n).map (a :: ·)).Nodup := fun a => by
      have h := wordsN_nodup n
      revert h
      generalize wordsN n = l
      intro h
      induction l with
      | nil => simp
      | cons x l ih =>
        rw [List.nodup_cons] at h
        rw [List.map_cons, List.nodup_cons]
        exact ⟨by simpa using h.1, ih h.2⟩
    refine ⟨inj 0, inj 1, fun a ha b hb e => ?_⟩
    obtain ⟨u, _, rfl⟩ := List.mem_map.mp ha
    obtain ⟨v, _, rfl⟩ := List.mem_map.mp hb
    simp at e
theorem rev_nodup : ∀ {l : List (List Nat)}, l.Nodup → (l.map List.reverse).Nodup
  | [], _ => by simp
  | x :: l, h => by
    rw [List.nodup_cons] at h
    rw [List.map_cons, List.nodup_cons]
    refine ⟨fun hm => ?_, rev_nodup h.2⟩
    obtain ⟨u, hu, e⟩ := List.mem_map.mp hm
    rw [List.reverse_inj] at e
    rw [e] at hu
    exact h.1 hu
theorem cf_back {r1 r2 : List (Nat × Nat)} {g1 g2 : List Nat} {n : Nat} (h : ∀ w, Bw w → tkN r2 g2 w = tkN r1 g1 w.reverse) : cfN r2 g2 n 0 = cfN r1 g1 n 0 := by
  have key : ∀ {r1 r2 : List (Nat × Nat)} {g1 g2 : List Nat}, (∀ w, Bw w → tkN r2 g2 w = tkN r1 g1 w.reverse) → cfN r2 g2 n 0 ≤ cfN r1 g1 n 0 := fun {r1 r2 g1 g2} h => by
    rw [cf_words, cf_words, ← List.length_map (f := List.reverse)]
    refine nodup_len _ _ (rev_nodup (List.Pairwise.sublist List.filter_sublist (wordsN_nodup n))) fun u hu => ?_
    obtain ⟨w, hw, rfl⟩ := List.mem_map.mp hu
    obtain ⟨h1, h2⟩ := List.mem_filter.mp hw
    obtain ⟨h3, h4⟩ := mem_wordsN.mp h1
    refine List.mem_filter.mpr ⟨mem_wordsN.mpr ⟨by rw [List.length_reverse]; exact h3, fun x hx => h4 x (List.mem_reverse.mp hx)⟩, ?_⟩
    rw [← h w h4]; exact h2
  refine Nat.le_antisymm (key h) (key fun w hw => ?_)
  rw [h w.reverse (fun x hx => hw x (List.mem_reverse.mp hx)), List.reverse_reverse]
theorem at_rngT (f : Nat → D) {a N : Nat} (h : a < N) : idxD (.tuple ((List.range N).map f)) (nI a) = some (f a) := by
  have e := at_map f (xs := List.range N) (k := a) (by rw [List.length_range]; exact h)
  rw [List.getElem_range] at e
  exact e
theorem ints_none (k n : Nat) (f : Nat → Int) (x0 x1 x2 x4 x5 x6 x7 x8 x9 x10 : Option Val) (m : Store) (Q : Val → Store → Prop) (q : Q (.d (.list [])) m) :
    WE C (G (k + 1)) (.comp [9] (.nm 9) (.seq (.var 3)) (.cons (.inot (.call 15 (.cons (.var 9) .nil))) .nil) (.var 9)) [x0, x1, x2, some (.d (.tuple ((List.range n).map fun i => .int (f i)))), x4, x5, x6, x7, x8, x9, x10] m Q := by
  refine we_filtA (List.range n) (fun i => .int (f i)) (fun _ => false) (fun i => .int (f i)) (v := .d (.tuple ((List.range n).map fun i => .int (f i)))) (m := m) ?_ trivial ?_ ?_
  · repeat eq_refl
    exact ⟨rfl, rfl, rfl⟩
  · intro i hi
    have e := law_int_ok k (.int (f i)) m
    have e : G (k + 1) 15 [.d (.int (f i))] m = some (.d (.bool true), m) := e
    refine op rfl ⟨?_, fun h => nomatch h⟩
    repeat eq_refl
    refine cl e ?_
    repeat eq_refl
    exact ⟨rfl, rfl⟩
  · have z : ((List.range n).filter fun _ => false) = [] := by simp
    rw [z]; exact q
/-- the rule's items times the counts from N on -/
theorem rule_items (k n N : Nat) (f : Nat → Int) (c : Nat → Nat) (hc : ∀ L, L < 14 → c L ≤ 2 ^ L) (hN : N + n ≤ 14) (x0 x1 x2 x6 x7 x8 x9 x10 : Option Val) (m : Store) (Q : Val → Store → Prop) (q : Q (.d (.list ((List.range n).map fun i => .int (f i * (c (N + i) : Int))))) m) :
    WE C (G k) (.comp [10] (.nm 10) (.rng (.bi .len (.var 3))) .nil (.bop .mul (.idx (.var 3) (.var 10)) (.idx (.var 4) (.bop .add (.var 5) (.var 10)))))
      [x0, x1, x2, some (.d (.tuple ((List.range n).map fun i => .int (f i)))), some (.d (.list ((List.range 14).map fun L => nI (c L)))), some (.d (nI N)), x6, x7, x8, x9, x10] m Q := by
  have lt : biD .len (.tuple ((List.range n).map fun i => .int (f i))) = some (.int n) := by rw [bi_len_t, List.length_map, List.length_range]
  refine we_mapA (List.range n) nI (fun i => .int (f i * (c (N + i) : Int))) (v := .d .none) (m := m) ?_ trivial ?_ q
  · repeat eq_refl
    exact ⟨rng_nI _, rfl, rfl⟩
  · intro i hi
    have hi := List.mem_range.mp hi
    have i1 : idxD (.tuple ((List.range n).map fun i => .int (f i))) (nI i) = some (.int (f i)) := at_rngT (fun i => .int (f i)) hi
    have i2 : idxD (.list ((List.range 14).map fun L => nI (c L))) (nI (N + i)) = some (nI (c (N + i))) := at_rng (fun L => nI (c L)) (by omega)
    have i3 : bopD .add (nI N) (nI i) = some (nI (N + i)) := bop_add _ _
    have few : c (N + i) ≤ 2 ^ 14 := Nat.le_trans (hc _ (by omega)) (Nat.pow_le_pow_right (by decide) (by omega))
    refine op rfl ?_
    refine we_bopM (x := .int (f i)) (y := nI (c (N + i))) ?_ ?_ (bop_mul _ _ (mulOk_r _ (by omega) (by omega))) ⟨rfl, rfl⟩
    · repeat eq_refl
      exact ⟨rfl, rfl⟩
    · repeat eq_refl
      exact ⟨rfl, rfl⟩
section
variable {r1 r2 : List (Nat × Nat)} {g1 g2 : List Nat}
/-- the counts obey the rule -/
theorem rule_ok (h : MN r1) (h5 : r1.length ≤ 5) (N : Nat) : (cfN r1 g1 (N + r1.length) 0 : Int) = ((List.range r1.length).map fun i => -prtI r1.length (stTab r1) (r1.length - i) * (cfN r1 g1 (N + i) 0 : Int)).sum :=
  rec_law (v := fun j b => (cfN r1 g1 j b : Int)) h.pos h5 (fun j a ha => stTab_app h g1 j a ha) N h.pos
theorem sums_ok {re ro : List (Nat × Nat)} {ge go : List Nat} (n : Nat) (he : ∀ w, Bw w → tkN re ge w = (tkN r1 g1 w || tkN r2 g2 w)) (hb : ∀ w, Bw w → tkN ro go w = (tkN r1 g1 w && tkN r2 g2 w)) : cfN re ge n 0 + cfN ro go n 0 = cfN r1 g1 n 0 + cfN r2 g2 n 0 := by
  rw [cf_words, cf_words, cf_words, cf_words, ← filter_or_and (tkN r1 g1) (tkN r2 g2)]
  congr 2
  · exact List.filter_congr fun w hw => he w (mem_wordsN.mp hw).2
  · exact List.filter_congr fun w hw => hb w (mem_wordsN.mp hw).2
theorem all_ok {gc : List Nat} (n : Nat) (hc : ∀ w, tkN r1 gc w = !tkN r1 g1 w) : cfN r1 g1 n 0 + cfN r1 gc n 0 = (wordsN n).length := by
  rw [cf_words, cf_words, ← filter_not (tkN r1 g1) (wordsN n)]
  congr 2
  exact List.filter_congr fun w _ => hc w
/-- one length -/
theorem tail_ok (k n : Nat) (hn : n < 6) (v1 : VM r1 g1) (v2 : VM r2 g2) (l1 : r1.length ≤ 5) (l2 : r2.length ≤ 3) (m : Store) (x0 x1 x2 x3 x5 x9 x10 : Option Val) :
    WSs C (G (k + 9)) tailS [x0, x1, x2, x3, some (.d (.list ((List.range 14).map fun L => nI (cfN r1 g1 L 0)))), x5, some (.d (nI n)), some (.d (mD r1 g1)), some (.d (mD r2 g2)), x9, x10] m
      (fun fl ρ m' => fl = .nx ∧ m' = m ∧ ρ = [x0, x1, x2, x3, some (.d (.list ((List.range 14).map fun L => nI (cfN r1 g1 L 0)))), x5, some (.d (nI n)), some (.d (mD r1 g1)), some (.d (mD r2 g2)), x9, x10]) := by
  have z : r1.length * r2.length ≤ 15 := Nat.mul_le_mul l1 l2
  obtain ⟨re, ge, ee, ve, le, he⟩ := either_ok (k + 4) m v1 v2 (by omega)
  obtain ⟨ro, go, eo, vo, lo, ho⟩ := both_ok (k + 4) m v1 v2 (by omega)
  obtain ⟨gc, ec, vc, hc⟩ := contrary_ok (k + 8) m v1 (by omega)
  obtain ⟨rb, gb, eb, hb⟩ := back_from v1 (k + 3) m (by omega)
  have p5 : 2 ^ r1.length ≤ 32 := Nat.pow_le_pow_right (n := 2) (by decide) l1
  have lb := hb.few
  have ce := count_ok (gs := ge) ve.mn (k + 7) n (by omega) (by omega) m
  have co := count_ok (gs := go) vo.mn (k + 7) n (by omega) (by omega) m
  have c1 := count_ok (gs := g1) v1.mn (k + 7) n (by omega) (by omega) m
  have c2 := count_ok (gs := g2) v2.mn (k + 7) n (by omega) (by omega) m
  have cc := count_ok (gs := gc) vc.mn (k + 7) n (by omega) (by omega) m
  have cb := count_ok (gs := gb) hb.vm.mn (k + 7) n (by omega) (by omega) m
  have lw := law_words_ok (k + 8) n (by omega) m
  have s1 : bopD .add (nI (cfN re ge n 0)) (nI (cfN ro go n 0)) = some (nI (cfN re ge n 0 + cfN ro go n 0)) := bop_add _ _
  have s2 : bopD .add (nI (cfN r1 g1 n 0)) (nI (cfN r2 g2 n 0)) = some (nI (cfN re ge n 0 + cfN ro go n 0)) := by
    rw [sums_ok n he ho]; exact bop_add _ _
  have s3 : bopD .add (nI (cfN r1 g1 n 0)) (nI (cfN r1 gc n 0)) = some (nI (wordsN n).length) := by
    rw [← all_ok n hc]; exact bop_add _ _
  have s4 : biD .len (.list ((wordsN n).map nd)) = some (nI (wordsN n).length) := by rw [bi_len_l, List.length_map]; rfl
  have i1 : idxD (.list ((List.range 14).map fun L => nI (cfN r1 g1 L 0))) (nI n) = some (nI (cfN r1 g1 n 0)) := at_rng (fun L => nI (cfN r1 g1 L 0)) (by omega)
  have ne : ∀ a : Nat, cmpD .ne (nI a) (nI a) = some (.bool false) := fun a => by
    have := cmp_ne_n a a
    rw [decide_eq_true rfl] at this
    exact this
  have n1 := ne (cfN re ge n 0 + cfN ro go n 0)
  have n2 := ne (wordsN n).length
  have n3 : cmpD .ne (nI (cfN rb gb n 0)) (nI (cfN r1 g1 n 0)) = some (.bool false) := by
    rw [cf_back (n := n) hb.lang]; exact ne _
  clear ne he ho hc hb p5 z le lo
  show WSs C (G (k + 9)) (.ife _ _ _ :: _) _ _ _
  repeat eq_refl
  refine cl ee ?_
  repeat eq_refl
  refine cl ce ?_
  repeat eq_refl
  refine cl eo ?_
  repeat eq_refl
  refine cl co ?_
  repeat eq_refl
  refine cl c1 ?_
  repeat eq_refl
  refine cl c2 ?_
  repeat eq_refl
  refine cl ec ?_
  repeat eq_refl
  refine cl cc ?_
  repeat eq_refl
  refine cl lw ?_
  repeat eq_refl
  refine cl eb ?_
  repeat eq_refl
  refine cl cb ?_
  repeat eq_refl
  exact ⟨rfl, rfl, rfl⟩
end
theorem turn_ok (k : Nat) {pl : List D} (hp : GP pl) (s0 x2 x3 x4 x5 x6 x7 x8 x9 x10 : Option Val) : WSs C (G (k + 9)) turnS [s0, some (.p 0), x2, x3, x4, x5, x6, x7, x8, x9, x10] [some pl]
    (fun fl ρ m => fl = .nx ∧ ∃ (pl' : List D) (y2 y3 y4 y5 y6 y7 y8 y9 y10 : Option Val), GP pl' ∧ m = [some pl'] ∧ ρ = [s0, some (.p 0), y2, y3, y4, y5, y6, y7, y8, y9, y10]) := by
  obtain ⟨r1, g1, p1, e1, gp1, m1, k1, l1⟩ := machine_ok (k + 5) 5 (by decide) (by decide) [] hp
  obtain ⟨r2, g2, p2, e2, gp2, m2, k2, l2⟩ := machine_ok (k + 5) 3 (by decide) (by decide) [] gp1
  have v1 : VM r1 g1 := ⟨m1, k1⟩
  have v2 : VM r2 g2 := ⟨m2, k2⟩
  have rc := recurrence_ok (gs := g1) m1 (k + 7) (by omega) [some p2]
  have a0 := mach_0 (rows := r1) (gs := g1)
  have lr : biD .len (rowsD r1) = some (nI r1.length) := by rw [bi_len_t, List.length_map]; rfl
  have lt : biD .len (.tuple ((List.range r1.length).map fun i => .int (-prtI r1.length (stTab r1) (r1.length - i)))) = some (nI r1.length) := by rw [bi_len_t, List.length_map, List.length_range]; rfl
  have ne : cmpD .ne (nI r1.length) (nI r1.length) = some (.bool false) := by
    have := cmp_ne_n r1.length r1.length
    rw [decide_eq_true rfl] at this
    exact this
  have gt : cmpD .gt (.int ((0 : Nat) : Int)) (.int 0) = some (.bool false) := rfl
  have l0 : biD .len (.list []) = some (.int ((0 : Nat) : Int)) := rfl
  have isT : isiD (.tuple ((List.range r1.length).map fun i => .int (-prtI r1.length (stTab r1) (r1.length - i)))) .tuple = true := rfl
  show WSs C (G (k + 9)) (.unp _ _ :: _) _ _ _
  refine wss_cons (ws_unp ?_)
  repeat eq_refl
  refine cl e1 ?_
  repeat eq_refl
  refine cl e2 ?_
  repeat eq_refl
  refine ⟨_, rfl, op rfl ?_⟩
  repeat eq_refl
  refine cl rc ?_
  refine bd_d (ct_nx (wss_cons (ws_ife (wt (we_bor (wor_two ?_))))))
  repeat eq_refl
  refine ints_none (k + 8) _ _ _ _ _ _ _ _ _ _ _ _ _ _ ?_
  repeat eq_refl
  have few : ∀ L, L < 14 → cfN r1 g1 L 0 ≤ 2 ^ L := fun L _ => cf_few r1 g1 L
  refine we_mapA (List.range 14) nI (fun L => nI (cfN r1 g1 L 0)) (v := .d .none) (m := [some p2]) ?_ trivial ?_ ?_
  · repeat eq_refl
    exact ⟨by decide, rng_nI 14, rfl, rfl⟩
  · intro L hL
    have hL := List.mem_range.mp hL
    refine op rfl ?_
    repeat eq_refl
    refine cl (count_ok m1 (k + 7) L (by omega) (by omega) [some p2]) ?_
    repeat eq_refl
    exact ⟨rfl, rfl⟩
  have sb : bopD .sub (.int 14) (nI r1.length) = some (nI (14 - r1.length)) := (bop_sub _ _).trans (by
    show some (PyData.int _) = some (PyData.int _)
    congr 2
    omega)
  refine bd_d (ct_nx (wss_cons ?_))
  refine ws_forA (xs := List.range (14 - r1.length)) (f := nI) (w := .none) (fun j ρ m => m = [some p2] ∧ ∃ x5, ρ = [s0, some (.p 0), x2, some (.d (.tuple ((List.range r1.length).map fun i => .int (-prtI r1.length (stTab r1) (r1.length - i))))), some (.d (.list ((List.range 14).map fun L => nI (cfN r1 g1 L 0)))), x5, x6, some (.d (mD r1 g1)), some (.d (mD r2 g2)), x9, x10]) ?_ ?_ ?_
  · repeat eq_refl
    exact ⟨⟨rng_nI _, rfl⟩, rfl, _, rfl⟩
  · rintro j hj ρ m ⟨rfl, x5, rfl⟩
    rw [List.length_range] at hj
    rw [List.getElem_range]
    have i1 : idxD (.list ((List.range 14).map fun L => nI (cfN r1 g1 L 0))) (nI (j + r1.length)) = some (nI (cfN r1 g1 (j + r1.length) 0)) := at_rng (fun L => nI (cfN r1 g1 L 0)) (by omega)
    have i3 : bopD .add (nI j) (nI r1.length) = some (nI (j + r1.length)) := bop_add _ _
    have sm : biD .sum (.list ((List.range r1.length).map fun i => .int (-prtI r1.length (stTab r1) (r1.length - i) * (cfN r1 g1 (j + i) 0 : Int)))) = some (nI (cfN r1 g1 (j + r1.length) 0)) := by
      rw [sum_int, ← rule_ok (g1 := g1) m1 l1 j]; rfl
    have c0 : cmpD .ne (nI (cfN r1 g1 (j + r1.length) 0)) (nI (cfN r1 g1 (j + r1.length) 0)) = some (.bool false) := by
      have := cmp_ne_n (cfN r1 g1 (j + r1.length) 0) (cfN r1 g1 (j + r1.length) 0)
      rw [decide_eq_true rfl] at this
      exact this
    refine op rfl ?_
    repeat eq_refl
    refine rule_items (k + 9) r1.length j (fun i => -prtI r1.length (stTab r1) (r1.length - i)) (fun L => cfN r1 g1 L 0) few (by omega) _ _ _ _ _ _ _ _ _ _ ?_
    repeat eq_refl
    exact ⟨rfl, _, rfl⟩
  rintro ρ m ⟨rfl, x5, rfl⟩
  refine ct_nx (wss_cons ?_)
  refine ws_forA (xs := List.range 6) (f := nI) (w := .none) (fun j ρ m => m = [some p2] ∧ ∃ x6, ρ = [s0, some (.p 0), x2, some (.d (.tuple ((List.range r1.length).map fun i => .int (-prtI r1.length (stTab r1) (r1.length - i))))), some (.d (.list ((List.range 14).map fun L => nI (cfN r1 g1 L 0)))), x5, x6, some (.d (mD r1 g1)), some (.d (mD r2 g2)), x9, x10]) ?_ ?_ ?_
  · repeat eq_refl
    refine rgp (n := 6) (by decide) ?_
    exact ⟨⟨rng_nI _, rfl⟩, rfl, _, rfl⟩
  · rintro j hj ρ m ⟨rfl, x6, rfl⟩
    rw [List.length_range] at hj
    rw [List.getElem_range]
    refine op rfl ?_
    refine wss_mono (tail_ok k j hj v1 v2 l1 l2 [some p2] _ _ _ _ _ _ _) ?_
    rintro fl ρ m ⟨rfl, rfl, rfl⟩
    exact ⟨rfl, _, rfl⟩
  · rintro ρ m ⟨rfl, x6, rfl⟩
    repeat eq_refl
    exact ⟨rfl, p2, _, _, _, _, _, _, _, _, _, gp2, rfl, rfl⟩
theorem law_true (ns : List Int) (h : ns.length ≤ 63) : callF C fs 60 22 [.d (.list (ns.map .int))] [] = some (.d (.bool true), []) := by
  rw [← G_eq, c_law 59]
  obtain ⟨pl, ep, gp⟩ := pool_ok 58 ns
  refine run_get rfl rfl ?_
  refine wss_cons (ws_setM (we_callM ?_))
  repeat eq_refl
  refine cl ep ⟨⟨_, rfl⟩, _, rfl, ?_⟩
  repeat eq_refl
  refine ws_forA (xs := List.range 3) (f := nI) (w := .none) (fun j ρ m => ∃ (pl' : List D) (y2 y3 y4 y5 y6 y7 y8 y9 y10 : Option Val), GP pl' ∧ m = [some pl'] ∧ ρ = [some (.d (.list (ns.map .int))), some (.p 0), y2, y3, y4, y5, y6, y7, y8, y9, y10]) ?_ ?_ ?_
  · repeat eq_refl
    refine rgp (n := 3) (by decide) ?_
    exact ⟨⟨rng_nI 3, rfl⟩, pl, _, _, _, _, _, _, _, _, _, gp, rfl, rfl⟩
  · rintro j hj ρ m ⟨pl', y2, y3, y4, y5, y6, y7, y8, y9, y10, gp', rfl, rfl⟩
    refine op rfl ?_
    refine wss_mono (turn_ok 50 gp' _ _ _ _ _ _ _ _ _ _) ?_
    rintro fl ρ m ⟨rfl, h⟩
    exact h
  · rintro ρ m ⟨pl', y2, y3, y4, y5, y6, y7, y8, y9, y10, gp', rfl, rfl⟩
    repeat eq_refl
    exact fin_t (by simp) ⟨rfl, rfl⟩

end Mu
open PySem PySem.W
open PyProof.Rows
set_option maxHeartbeats 0 in
theorem PySem.Challenge.cw_everyregular_k19_whole_counts_follow_the_holds : PySem.Challenge.rw_everyregular_k19_whole_counts_follow_the.Holds := by
  w_on; o_law; k_head
  (case hw => w_witness2)
  k_fill
  refine Mu.law_walk (l := PySem.Challenge.rw_everyregular_k19_whole_counts_follow_the) (n := 63) (fns := Mu.fns) (cons := Mu.cons) (exs := Mu.exs) (C := Mu.C) (fs := Mu.fs) (j := 22) (k := 60) rfl (by decide) rfl ⟨rfl, by decide, by decide⟩ (fun w h Y => PySem.W.km_in_of Y) rfl (by decide) ?F (fun ns hl hb => Mu.law_true ns hl)
  case F =>
    intro w mg h KX G Y
    refine' Mu.all_mk KX G ?a0 ?l0 ?c0 ?k0 ?a1 ?l1 ?c1 ?k1 ?a2 ?l2 ?c2 ?k2 ?a3 ?l3 ?c3 ?k3 ?a4 ?l4 ?c4 ?k4 ?a5 ?l5 ?c5 ?k5 ?a6 ?l6 ?c6 ?k6 ?a7 ?l7 ?c7 ?k7 ?a8 ?l8 ?c8 ?k8 ?a9 ?l9 ?c9 ?k9 ?a10 ?l10 ?c10 ?k10 ?a11 ?l11 ?c11 ?k11 ?a12 ?l12 ?c12 ?k12 ?a13 ?l13 ?c13 ?k13 ?a14 ?l14 ?c14 ?k14 ?a15 ?l15 ?c15 ?k15 ?a16 ?l16 ?c16 ?k16 ?a17 ?l17 ?c17 ?k17 ?a18 ?l18 ?c18 ?k18 ?a19 ?l19 ?c19 ?k19 ?a20 ?l20 ?c20 ?k20 ?a21 ?l21 ?c21 ?k21 ?a22 ?l22 ?c22 ?k22 ?z1 ?z2 ?z3 ?z4 ?z5 ?z6 ?z7 ?z8 ?z9 ?z10 ?z11 ?z12 ?z13 ?z14 ?z15 ?z16 ?z17 ?z18 ?z19 ?z20 ?mg0 ?y1 ?mg1 ?mke ?mkb
    (case a0 => k_is); (case l0 => k_is); (case c0 => k_is); (case k0 => k_is); (case a1 => k_is); (case l1 => k_is); (case c1 => k_is); (case k1 => k_is); (case a2 => k_is); (case l2 => k_is); (case c2 => k_is); (case k2 => k_is); (case a3 => k_is); (case l3 => k_is); (case c3 => k_is); (case k3 => k_is); (case a4 => k_is); (case l4 => k_is); (case c4 => k_is); (case k4 => k_is); (case a5 => k_is); (case l5 => k_is); (case c5 => k_is); (case k5 => k_is); (case a6 => k_is); (case l6 => k_is); (case c6 => k_is); (case k6 => k_is); (case a7 => k_is); (case l7 => k_is); (case c7 => k_is); (case k7 => k_is); (case a8 => k_is); (case l8 => k_is); (case c8 => k_is); (case k8 => k_is); (case a9 => k_is); (case l9 => k_is); (case c9 => k_is); (case k9 => k_is); (case a10 => k_is); (case l10 => k_is); (case c10 => k_is); (case k10 => k_is); (case a11 => k_is); (case l11 => k_is); (case c11 => k_is); (case k11 => k_is); (case a12 => k_is); (case l12 => k_is); (case c12 => k_is); (case k12 => k_is); (case a13 => k_is); (case l13 => k_is); (case c13 => k_is); (case k13 => k_is); (case a14 => k_is); (case l14 => k_is); (case c14 => k_is); (case k14 => k_is); (case a15 => k_is); (case l15 => k_is); (case c15 => k_is); (case k15 => k_is); (case a16 => k_is); (case l16 => k_is); (case c16 => k_is); (case k16 => k_is); (case a17 => k_is); (case l17 => k_is); (case c17 => k_is); (case k17 => k_is); (case a18 => k_is); (case l18 => k_is); (case c18 => k_is); (case k18 => k_is); (case a19 => k_is); (case l19 => k_is); (case c19 => k_is); (case k19 => k_is); (case a20 => k_is); (case l20 => k_is); (case c20 => k_is); (case k20 => k_is); (case a21 => k_is); (case l21 => k_is); (case c21 => k_is); (case k21 => k_is); (case a22 => k_is); (case l22 => k_is); (case c22 => k_is); (case k22 => k_is); (case z1 => k_is); (case z2 => k_is); (case z3 => k_is); (case z4 => k_is); (case z5 => k_is); (case z6 => k_is); (case z7 => k_is); (case z8 => k_is); (case z9 => k_is); (case z10 => k_is); (case z11 => k_is); (case z12 => k_is); (case z13 => k_is); (case z14 => k_is); (case z15 => k_is); (case z16 => k_is); (case z17 => k_is); (case z18 => k_is); (case z19 => k_is); (case z20 => k_is); (case mg0 => k_is); (case y1 => k_is); (case mg1 => k_is); (case mke => exact PySem.W.km_tabs_of Y); (case mkb => kernel_rfl)

