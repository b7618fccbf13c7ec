import PyProof.Rows.All
import Wide.All
import OpenK.AllK
import Wide.FinOn
import HandS.ForMost
import HandS.EndBits
import HandS.IsInst
import HandS.Deep
import HandS.Wide
import HandS.TupAny
import HandS.TupLe
import KE.DataMinMax
import KE.SortData
import HandS.Flow
import PySem.Challenge.RW_everyregular_k01_whole_machines
set_option Elab.async false
set_option linter.all false
set_option maxRecDepth 100000
set_option maxHeartbeats 8000000
/-! A small language of values: what our defs mean, by functions on data. -/
namespace Mu
open PySem

abbrev D := PyData
/-- what a name of a def may hold: data, or one of the lists that are changed -/
inductive Val where
  | d (x : D)
  | p (i : Nat)
abbrev Store := List (Option (List D))
abbrev Rho := List (Option Val)

inductive BOp | add | sub | mul | fdiv | mod
inductive COp | eq | ne | lt | le | gt | ge | inn | nin
inductive Cls | int | bool | str | tuple | list | dict
inductive BI | len | tup | lst | int | bool | all | any | max | min | sum | repr

mutual
inductive E where
  | var (i : Nat)
  | non
  | bl (b : Bool)
  | int (i : Int)
  | str (s : String)
  | con (x : String) (n : Nat)
  | tup (es : Es)
  | lst (es : Es)
  | dct (n : Nat)
  | rep (es : Es) (k : E)
  | bop (o : BOp) (a b : E)
  | neg (a : E)
  | inot (a : E)
  | cmp (o : COp) (a b : E)
  | chn (o o' : COp) (a b c : E)
  | isN (a : E)
  | notN (a : E)
  | band (es : Es)
  | bor (es : Es)
  | ite (c a b : E)
  | idx (a i : E)
  | sli (a : E) (lo hi : Oe)
  | isi (a : E) (c : Cls)
  | call (f : Nat) (es : Es)
  | callM (f : Nat) (es : Es)
  | bi (b : BI) (e : E)
  | comp (own : List Nat) (tg : Tg) (it : It) (cs : Es) (elt : E)
  | comp2 (own : List Nat) (tg : Tg) (it : It) (tg' : Tg) (it' : It) (cs' : Es) (elt : E)
inductive Es where
  | nil
  | cons (e : E) (es : Es)
inductive Oe where
  | no
  | so (e : E)
inductive It where
  | seq (e : E)
  | rng (e : E)
  | rng2 (a b : E)
inductive Tg where
  | nm (i : Nat)
  | tp (is : List Nat)
end
inductive S where
  | set (i : Nat) (e : E)
  | setM (i : Nat) (e : E)
  | unp (is : List Nat) (e : E)
  | aug (i : Nat) (o : BOp) (e : E)
  | par (i j : Nat) (e d : E)
  | ret (e : E)
  | retN
  | retM (e : E)
  | drop (e : E)
  | app (a e : E)
  | put (a i e : E)
  | put2 (a i b j e d : E)
  | ife (c : E) (a b : List S)
  | whl (c : E) (b : List S)
  | for_ (tg : Tg) (it : It) (b : List S)
  | brk
  | cnt
  | pass

/-! ### values -/
def deref (μ : Store) : Val → Option D
  | .d x => some x
  | .p i => match μ[i]? with
    | some (some ds) => some (.list ds)
    | _ => none
def mulOk (i j : Int) : Bool := (decide (-(2 ^ 64) < i) && decide (i < 2 ^ 64)) || (decide (-(2 ^ 64) < j) && decide (j < 2 ^ 64))
def bopD : BOp → D → D → Option D
  | .add, .int i, .int j => some (.int (i + j))
  | .add, .str x, .str y => if x.length + y.length ≤ sizeLine then some (.str (x ++ y)) else none
  | .add, .tuple xs, .tuple ys => if xs.length + ys.length ≤ sizeLine then some (.tuple (xs ++ ys)) else none
  | .add, .list xs, .list ys => if xs.length + ys.length ≤ sizeLine then some (.list (xs ++ ys)) else none
  | .sub, .int i, .int j => some (.int (i - j))
  | .mul, .int i, .int j => if mulOk i j = true then some (.int (i * j)) else none
  | .fdiv, .int i, .int j => if 0 < j ∧ j < 1073741824 then some (.int (i / j)) else none
  | .mod, .int i, .int j => if 0 < j then some (.int (i % j)) else none
  | _, _, _ => none
/-- a list of ints -/
def intsD : List D → Option (List Int)
  | [] => some []
  | .int i :: r => (intsD r).map (i :: ·)
  | _ :: _ => none
def shp (x : D) : Bool := SeqAt.shaped x
def strEq : D → D → Option Bool
  | .str x, .str y => some (decide (x = y))
  | _, _ => none
def eqD (x y : D) : Option Bool := match strEq x y with
  | some b => some b
  | none => if shp x = true ∧ shp y = true then some (PyData.eqv x y) else none
def cmpD : COp → D → D → Option D
  | .eq, x, y => (eqD x y).map .bool
  | .ne, x, y => (eqD x y).map fun b => .bool (!b)
  | .lt, .int i, .int j => some (.bool (decide (i < j)))
  | .le, .int i, .int j => some (.bool (decide (i ≤ j)))
  | .gt, .int i, .int j => some (.bool (decide (j < i)))
  | .ge, .int i, .int j => some (.bool (decide (j ≤ i)))
  | .inn, x, .list ys => if shp x = true ∧ shp (.list ys) = true then some (.bool (ys.any fun z => PyData.eqv z x)) else none
  | .nin, x, .list ys => if shp x = true ∧ shp (.list ys) = true then some (.bool (!ys.any fun z => PyData.eqv z x)) else none
  | .inn, x, .tuple ys => if shp x = true ∧ shp (.tuple ys) = true then some (.bool (ys.any fun z => PyData.eqv z x)) else none
  | .nin, x, .tuple ys => if shp x = true ∧ shp (.tuple ys) = true then some (.bool (!ys.any fun z => PyData.eqv z x)) else none
  | _, _, _ => none
def truD : D → Option Bool
  | .none => some false
  | .bool b => some b
  | .int i => some (i != 0)
  | .str x => if x.length ≤ sizeLine then some ((x.length : Int) != 0) else none
  | .list xs => some (!xs.isEmpty)
  | .tuple xs => some (!xs.isEmpty)
  | .dict _ => none
def idxD : D → D → Option D
  | .list xs, .int i => L2.atI xs i
  | .tuple xs, .int i => L2.atI xs i
  | .str z, .int i => if z.length ≤ sizeLine then (L2.atI z.cps.toList i).map fun c => .str ⟨#[c]⟩ else none
  | _, _ => none
def cutD (xs : List D) (lo hi : Option Int) : List D := (xs.drop (HT.sIx xs.length 0 lo)).take (HT.sIx xs.length xs.length hi - HT.sIx xs.length 0 lo)
def sliD : D → Option Int → Option Int → Option D
  | .list xs, lo, hi => some (.list (cutD xs lo hi))
  | .tuple xs, lo, hi => some (.tuple (cutD xs lo hi))
  | .str z, lo, hi => if z.length ≤ sizeLine then some (.str (L2.cutS z lo hi)) else none
  | _, _, _ => none
def isiD : D → Cls → Bool
  | .int _, .int => true
  | .bool _, .int => true
  | .bool _, .bool => true
  | .str _, .str => true
  | .tuple _, .tuple => true
  | .list _, .list => true
  | .dict _, .dict => true
  | _, _ => false
def boolsD : List D → Option (List Bool)
  | [] => some []
  | .bool b :: r => (boolsD r).map (b :: ·)
  | _ :: _ => none
def biD : BI → D → Option D
  | .len, .list xs => some (.int xs.length)
  | .len, .tuple xs => some (.int xs.length)
  | .len, .str z => if z.length ≤ sizeLine then some (.int z.length) else none
  | .tup, .list xs => some (.tuple xs)
  | .tup, .tuple xs => some (.tuple xs)
  | .lst, .list xs => some (.list xs)
  | .lst, .tuple xs => some (.list xs)
  | .int, .int i => some (.int i)
  | .int, .bool b => some (.int (if b then 1 else 0))
  | .bool, .int i => some (.bool (i != 0))
  | .bool, .bool b => some (.bool b)
  | .max, .list xs => match intsD xs with
    | some (n :: ns) => some (.int (ns.foldl max n))
    | _ => none
  | .max, .tuple xs => match intsD xs with
    | some (n :: ns) => some (.int (ns.foldl max n))
    | _ => none
  | .min, .list xs => match intsD xs with
    | some (n :: ns) => some (.int (ns.foldl min n))
    | _ => none
  | .min, .tuple xs => match intsD xs with
    | some (n :: ns) => some (.int (ns.foldl min n))
    | _ => none
  | .sum, .list xs => (intsD xs).map fun ns => .int ns.sum
  | .all, .list xs => (boolsD xs).map fun bs => .bool (bs.all id)
  | .any, .list xs => (boolsD xs).map fun bs => .bool (bs.any id)
  | .repr, .tuple xs => if PyData.showable (.tuple xs) = true ∧ shp (.tuple xs) = true ∧ (PyData.shown (.tuple xs)).length ≤ sizeLine then some (.str (PyData.shown (.tuple xs))) else none
  | _, _ => none

/-! ### loops -/
def iterO {α β : Type} (f : α → Option (α ⊕ β)) : Nat → α → Option β
  | 0, _ => none
  | n + 1, a => match f a with
    | none => none
    | some (.inl a') => iterO f n a'
    | some (.inr b) => some b
open Classical in
noncomputable def whileO {α β : Type} (f : α → Option (α ⊕ β)) (a : α) : Option β :=
  if h : ∃ n, (iterO f n a).isSome = true then iterO f (Classical.choose h) a else none
inductive Flow where
  | nx
  | ret (v : Val)
  | bk
  | ct
/-- the list that is walked is as it was -/
def Still (v : Val) (xs : List D) (μ : Store) : Prop := match v with
  | .d _ => True
  | .p i => μ[i]? = some (some xs)
open Classical in
/-- a comprehension's turns: each gives some items -/
noncomputable def compL (ok : Store → Prop) (f : D → Store → Option (List D × Store)) : List D → Store → Option (List D × Store)
  | [], μ => if ok μ then some ([], μ) else none
  | x :: xs, μ => if ok μ then (f x μ).bind fun (zs, μ1) => (compL ok f xs μ1).bind fun (ys, μ2) => some (zs ++ ys, μ2) else none
open Classical in
/-- a for's turns -/
noncomputable def forO {α : Type} (ok : α → Prop) (f : D → α → Option (α ⊕ (Flow × α))) : List D → α → Option (Flow × α)
  | [], a => if ok a then some (.nx, a) else none
  | x :: xs, a => if ok a then match f x a with
    | none => none
    | some (.inl a') => forO ok f xs a'
    | some (.inr r) => some r
    else none
def wipeR (ρ : Rho) : List Nat → Rho
  | [] => ρ
  | v :: vs => (wipeR ρ vs).set v none
def setAll : Rho → List Nat → List D → Option Rho
  | ρ, [], [] => some ρ
  | ρ, i :: is, x :: xs => setAll (ρ.set i (some (.d x))) is xs
  | _, _, _ => none
def Tg.ix : Tg → List Nat
  | .nm i => [i]
  | .tp is => is
def tgS (ρ : Rho) : Tg → D → Option Rho
  | .nm i, x => some (ρ.set i (some (.d x)))
  | .tp is, .tuple xs => setAll ρ is xs
  | _, _ => none
def rngD (a b : Int) : List D := (List.range (b - a).toNat).map fun (k : Nat) => PyData.int (a + (k : Int))
def rngOk (a b : Int) : Bool := decide (-(2 ^ 62) ≤ a) && decide (a < 2 ^ 62) && decide (-(2 ^ 62) ≤ b) && decide (b < 2 ^ 62) && decide ((b - a).toNat ≤ sizeLine)

/-! ### meaning -/
abbrev Calls := Nat → List Val → Store → Option (Val × Store)
abbrev Cons := Nat → Option D
/-- from here on: the defs that give a new list to be changed -/
def mB : Nat := 1000000
def newL : Option (Val × Store) → Option (Val × Store)
  | some (.d (.list xs), μ) => some (.d (.list xs), μ)
  | _ => none
/-- read as data, as True or False, as a test -/
def toD (r : Option (Val × Store)) : Option (D × Store) := r.bind fun (v, μ1) => (deref μ1 v).map fun x => (x, μ1)
def toB (r : Option (Val × Store)) : Option (Bool × Store) := r.bind fun (v, μ1) => match v with
  | .d (.bool b) => some (b, μ1)
  | _ => none
def toT (r : Option (Val × Store)) : Option (Bool × Store) := r.bind fun (v, μ1) => (deref μ1 v).bind fun x => (truD x).map fun b => (b, μ1)
def toI (r : Option (Val × Store)) : Option (Int × Store) := r.bind fun (v, μ1) => match v with
  | .d (.int i) => some (i, μ1)
  | _ => none
/-- kept as data: a list that was changed is not changed any more -/
def frzV (μ1 : Store) : Val → Option (D × Store)
  | .d x => some (x, μ1)
  | .p i => match μ1[i]? with
    | some (some xs) => some (.list xs, μ1.set i none)
    | _ => none
def toF (r : Option (Val × Store)) : Option (D × Store) := r.bind fun (v, μ1) => frzV μ1 v
def rd1 (μ : Store) (v : Val) (f : D → Option D) : Option (Val × Store) := (deref μ v).bind fun x => (f x).map fun z => (.d z, μ)
def rd2 (μ : Store) (v w : Val) (f : D → D → Option D) : Option (Val × Store) := (deref μ v).bind fun x => (deref μ w).bind fun y => (f x y).map fun z => (.d z, μ)
def noneV : Val → Bool
  | .d .none => true
  | _ => false
section
variable (C : Cons) (F : Calls)
mutual
noncomputable def evE : E → Rho → Store → Option (Val × Store)
  | .var i, ρ, μ => match ρ[i]? with
    | some (some v) => some (v, μ)
    | _ => none
  | .non, _, μ => some (.d .none, μ)
  | .bl b, _, μ => some (.d (.bool b), μ)
  | .int i, _, μ => some (.d (.int i), μ)
  | .str s, _, μ => some (.d (.str s), μ)
  | .con _ n, _, μ => (C n).map fun x => (.d x, μ)
  | .tup es, ρ, μ => (evEs es ρ μ).bind fun (xs, μ1) => some (.d (.tuple xs), μ1)
  | .lst es, ρ, μ => (evEs es ρ μ).bind fun (xs, μ1) => some (.d (.list xs), μ1)
  | .dct _, _, μ => some (.d (.dict []), μ)
  | .rep es k, ρ, μ => (evEs es ρ μ).bind fun (xs, μ1) => (toI (evE k ρ μ1)).bind fun (n, μ2) => if -(2 ^ 63) ≤ n ∧ n < 2 ^ 63 ∧ xs.length * n.toNat ≤ sizeLine then some (.d (.list (List.flatten (List.replicate n.toNat xs))), μ2) else none
  | .bop o a b, ρ, μ => (evE a ρ μ).bind fun (v, μ1) => (evE b ρ μ1).bind fun (w, μ2) => rd2 μ2 v w (bopD o)
  | .neg a, ρ, μ => (toI (evE a ρ μ)).bind fun (i, μ1) => some (.d (.int (-i)), μ1)
  | .inot a, ρ, μ => (toT (evE a ρ μ)).bind fun (b, μ1) => some (.d (.bool (!b)), μ1)
  | .cmp o a b, ρ, μ => (evE a ρ μ).bind fun (v, μ1) => (evE b ρ μ1).bind fun (w, μ2) => rd2 μ2 v w (cmpD o)
  | .chn o o' a b c, ρ, μ => (evE a ρ μ).bind fun (v, μ1) => (evE b ρ μ1).bind fun (w, μ2) => (toB (rd2 μ2 v w (cmpD o))).bind fun (k, μ3) =>
      if k = true then (evE c ρ μ3).bind fun (u, μ4) => rd2 μ4 w u (cmpD o') else some (.d (.bool false), μ3)
  | .isN a, ρ, μ => (evE a ρ μ).bind fun (v, μ1) => some (.d (.bool (noneV v)), μ1)
  | .notN a, ρ, μ => (evE a ρ μ).bind fun (v, μ1) => some (.d (.bool (!noneV v)), μ1)
  | .band es, ρ, μ => (evAnd es ρ μ).map fun (b, μ1) => (.d (.bool b), μ1)
  | .bor es, ρ, μ => (evOr es ρ μ).map fun (b, μ1) => (.d (.bool b), μ1)
  | .ite c a b, ρ, μ => (toT (evE c ρ μ)).bind fun (k, μ1) => if k = true then evE a ρ μ1 else evE b ρ μ1
  | .idx a i, ρ, μ => (evE a ρ μ).bind fun (v, μ1) => (evE i ρ μ1).bind fun (w, μ2) => rd2 μ2 v w idxD
  | .sli a lo hi, ρ, μ => (evE a ρ μ).bind fun (v, μ1) => (evO lo ρ μ1).bind fun (l, μ2) => (evO hi ρ μ2).bind fun (h, μ3) => rd1 μ3 v fun x => sliD x l h
  | .isi a c, ρ, μ => (evE a ρ μ).bind fun (v, μ1) => rd1 μ1 v fun x => some (.bool (isiD x c))
  | .call f es, ρ, μ => (evVs es ρ μ).bind fun (vs, μ1) => F f vs μ1
  | .callM f es, ρ, μ => (evVs es ρ μ).bind fun (vs, μ1) => newL (F (mB + f) vs μ1)
  | .bi b e, ρ, μ => (evE e ρ μ).bind fun (v, μ1) => rd1 μ1 v (biD b)
  | .comp own tg it cs elt, ρ, μ => (evI it ρ μ).bind fun ((xs, v), μ1) =>
      (compL (Still v xs) (fun x μ1 => (tgS (wipeR ρ own) tg x).bind fun ρ1 => (evCs cs ρ1 μ1).bind fun (k, μ2) =>
        if k = true then (toF (evE elt ρ1 μ2)).bind fun (y, μ3) => some ([y], μ3) else some ([], μ2)) xs μ1).bind fun (ys, μ4) => some (.d (.list ys), μ4)
  | .comp2 own tg it tg' it' cs' elt, ρ, μ => (evI it ρ μ).bind fun ((xs, v), μ1) =>
      (compL (Still v xs) (fun x μ1 => (tgS (wipeR ρ own) tg x).bind fun ρ1 => (evI it' ρ1 μ1).bind fun ((ys, w), μ2) =>
        compL (Still w ys) (fun y μ2 => (tgS (wipeR ρ1 tg'.ix) tg' y).bind fun ρ2 => (evCs cs' ρ2 μ2).bind fun (k, μ3) =>
          if k = true then (toF (evE elt ρ2 μ3)).bind fun (z, μ4) => some ([z], μ4) else some ([], μ3)) ys μ2) xs μ1).bind fun (ys, μ5) => if ys.length ≤ sizeLine then some (.d (.list ys), μ5) else none
noncomputable def evEs : Es → Rho → Store → Option (List D × Store)
  | .nil, _, μ => some ([], μ)
  | .cons e es, ρ, μ => (toF (evE e ρ μ)).bind fun (x, μ1) => (evEs es ρ μ1).bind fun (xs, μ2) => some (x :: xs, μ2)
noncomputable def evVs : Es → Rho → Store → Option (List Val × Store)
  | .nil, _, μ => some ([], μ)
  | .cons e es, ρ, μ => (evE e ρ μ).bind fun (x, μ1) => (evVs es ρ μ1).bind fun (xs, μ2) => some (x :: xs, μ2)
noncomputable def evAnd : Es → Rho → Store → Option (Bool × Store)
  | .nil, _, _ => none
  | .cons e es, ρ, μ => match es with
    | .nil => toB (evE e ρ μ)
    | .cons _ _ => (toB (evE e ρ μ)).bind fun (b, μ1) => if b = true then evAnd es ρ μ1 else some (false, μ1)
noncomputable def evOr : Es → Rho → Store → Option (Bool × Store)
  | .nil, _, _ => none
  | .cons e es, ρ, μ => match es with
    | .nil => toB (evE e ρ μ)
    | .cons _ _ => (toB (evE e ρ μ)).bind fun (b, μ1) => if b = true then some (true, μ1) else evOr es ρ μ1
noncomputable def evCs : Es → Rho → Store → Option (Bool × Store)
  | .nil, _, μ => some (true, μ)
  | .cons e es, ρ, μ => match es with
    | .nil => toT (evE e ρ μ)
    | .cons _ _ => none
noncomputable def evO : Oe → Rho → Store → Option (Option Int × Store)
  | .no, _, μ => some (none, μ)
  | .so e, ρ, μ => (toI (evE e ρ μ)).bind fun (i, μ1) => some (some i, μ1)
noncomputable def evI : It → Rho → Store → Option ((List D × Val) × Store)
  | .seq e, ρ, μ => (evE e ρ μ).bind fun (v, μ1) => (deref μ1 v).bind fun x => match x with
    | .list xs => some ((xs, v), μ1)
    | .tuple xs => some ((xs, v), μ1)
    | _ => none
  | .rng e, ρ, μ => (toI (evE e ρ μ)).bind fun (b, μ1) => if rngOk 0 b = true then some ((rngD 0 b, .d .none), μ1) else none
  | .rng2 e e', ρ, μ => (toI (evE e ρ μ)).bind fun (a, μ1) => (toI (evE e' ρ μ1)).bind fun (b, μ2) => if rngOk a b = true then some ((rngD a b, .d .none), μ2) else none
end
abbrev RS := Rho × Store
/-- a list that is changed has its place in the store -/
def bdV (μ : Store) : Val → Bool
  | .d _ => true
  | .p j => decide (j < μ.length)
/-- o.append(y) -/
def appV (μ : Store) (v : Val) (y : D) : Option Store := match v with
  | .p i => match μ[i]? with
    | some (some xs) => if xs.length < sizeLine then some (μ.set i (some (xs ++ [y]))) else none
    | _ => none
  | _ => none
/-- o[i] = y -/
def putV (μ : Store) (v : Val) (k : Int) (y : D) : Option Store := match v with
  | .p j => match μ[j]? with
    | some (some xs) => (L2.ixN xs.length k).map fun m => μ.set j (some (xs.set m y))
    | _ => none
  | _ => none
mutual
noncomputable def evS : S → Rho → Store → Option (Flow × RS)
  | .set i e, ρ, μ => (evE C F e ρ μ).bind fun (v, μ1) => if bdV μ1 v = true then some (.nx, ρ.set i (some v), μ1) else none
  | .par i j e d, ρ, μ => (evE C F e ρ μ).bind fun (v, μ1) => (evE C F d ρ μ1).bind fun (w, μ2) => if bdV μ2 v = true ∧ bdV μ2 w = true then some (.nx, (ρ.set i (some v)).set j (some w), μ2) else none
  | .setM i e, ρ, μ => (evE C F e ρ μ).bind fun (v, μ1) => match v with
    | .d (.list xs) => some (.nx, ρ.set i (some (.p μ1.length)), μ1 ++ [some xs])
    | _ => none
  | .unp is e, ρ, μ => (evE C F e ρ μ).bind fun (v, μ1) => match v with
    | .d x => (tgS ρ (.tp is) x).bind fun ρ1 => some (.nx, ρ1, μ1)
    | _ => none
  | .aug i o e, ρ, μ => match ρ[i]? with
    | some (some (.d (.int x))) => (toI (evE C F e ρ μ)).bind fun (y, μ1) => match bopD o (.int x) (.int y) with
      | some (.int z) => some (.nx, ρ.set i (some (.d (.int z))), μ1)
      | _ => none
    | _ => none
  | .retN, ρ, μ => some (.ret (.d .none), ρ, μ)
  | .ret e, ρ, μ => (evE C F e ρ μ).bind fun (v, μ1) => some (.ret v, ρ, μ1)
  | .retM e, ρ, μ => (evE C F e ρ μ).bind fun (v, μ1) => match v with
    | .d (.list xs) => some (.ret (.p μ1.length), ρ, μ1 ++ [some xs])
    | _ => none
  | .drop e, ρ, μ => (evE C F e ρ μ).bind fun (_, μ1) => some (.nx, ρ, μ1)
  | .app a e, ρ, μ => (evE C F a ρ μ).bind fun (v, μ1) => (deref μ1 v).bind fun _ => (toF (evE C F e ρ μ1)).bind fun (y, μ2) => (appV μ2 v y).map fun μ3 => (.nx, ρ, μ3)
  | .put a i e, ρ, μ => (toF (evE C F e ρ μ)).bind fun (y, μ1) => (evE C F a ρ μ1).bind fun (v, μ2) => (toI (evE C F i ρ μ2)).bind fun (k, μ3) => (putV μ3 v k y).map fun μ4 => (.nx, ρ, μ4)
  | .put2 a i b j e d, ρ, μ => (toF (evE C F e ρ μ)).bind fun (y, μ1) => (toF (evE C F d ρ μ1)).bind fun (z, μ2) => (evE C F a ρ μ2).bind fun (v, μ3) => (toI (evE C F i ρ μ3)).bind fun (k, μ4) => (putV μ4 v k y).bind fun μ5 =>
      (evE C F b ρ μ5).bind fun (w, μ6) => (toI (evE C F j ρ μ6)).bind fun (l, μ7) => (putV μ7 w l z).map fun μ8 => (.nx, ρ, μ8)
  | .ife c a b, ρ, μ => (toT (evE C F c ρ μ)).bind fun (k, μ1) => if k = true then evSs a ρ μ1 else evSs b ρ μ1
  | .whl c b, ρ, μ => whileO (fun (x : RS) => (toT (evE C F c x.1 x.2)).bind fun (k, μ1) =>
      if k = true then (evSs b x.1 μ1).bind fun (f, y) => match f with
        | .nx => some (.inl y)
        | .ct => some (.inl y)
        | .bk => some (.inr (.nx, y))
        | .ret v => some (.inr (.ret v, y))
      else some (.inr (.nx, x.1, μ1))) (ρ, μ)
  | .for_ tg it b, ρ, μ => (evI C F it ρ μ).bind fun ((xs, v), μ1) => forO (fun (x : RS) => Still v xs x.2) (fun x (a : RS) => (tgS a.1 tg x).bind fun ρ1 => (evSs b ρ1 a.2).bind fun (f, y) => match f with
      | .nx => some (.inl y)
      | .ct => some (.inl y)
      | .bk => some (.inr (.nx, y))
      | .ret v => some (.inr (.ret v, y))) xs (ρ, μ1)
  | .brk, ρ, μ => some (.bk, ρ, μ)
  | .cnt, ρ, μ => some (.ct, ρ, μ)
  | .pass, ρ, μ => some (.nx, ρ, μ)
noncomputable def evSs : List S → Rho → Store → Option (Flow × RS)
  | [], ρ, μ => some (.nx, ρ, μ)
  | s :: r, ρ, μ => (evS s ρ μ).bind fun (f, x) => match f with
    | .nx => evSs r x.1 x.2
    | f => some (f, x)
end
end
/-- a def: its parameters, its names, its body -/
structure FD where
  ps : Nat
  n : Nat
  body : List S
def endD (μ : Store) (v : Val) (μ1 : Store) : Option (Val × Store) :=
  if μ.length ≤ μ1.length then match v with
    | .d x => some (.d x, μ1.take μ.length)
    | .p i => if i < μ.length then some (.p i, μ1.take μ.length) else (deref μ1 (.p i)).map fun x => (.d x, μ1.take μ.length)
  else none
noncomputable def runD (C : Cons) (F : Calls) (fd : FD) (vs : List Val) (μ : Store) : Option (Val × Store) :=
  if vs.length = fd.ps ∧ vs.all (bdV μ) = true then (evSs C F fd.body (vs.map some ++ List.replicate (fd.n - fd.ps) none) μ).bind fun (f, x) => match f with
    | .nx => endD μ (.d .none) x.2
    | .ret v => endD μ v x.2
    | _ => none
  else none
/-- .. that ends with a list of its own, still to be changed -/
def endM (μ : Store) (v : Val) (μ1 : Store) : Option (Val × Store) := match v with
  | .p i => if μ.length ≤ i then match μ1[i]? with
    | some (some xs) => some (.d (.list xs), μ1.take μ.length)
    | _ => none
    else none
  | _ => none
noncomputable def runM (C : Cons) (F : Calls) (fd : FD) (vs : List Val) (μ : Store) : Option (Val × Store) :=
  if vs.length = fd.ps ∧ vs.all (bdV μ) = true then (evSs C F fd.body (vs.map some ++ List.replicate (fd.n - fd.ps) none) μ).bind fun (f, x) => match f with
    | .ret v => endM μ v x.2
    | _ => none
  else none
noncomputable def callF (C : Cons) (fs : List FD) : Nat → Calls
  | 0 => fun _ _ _ => none
  | k + 1 => fun f vs μ => if f < mB then (fs[f]?).bind fun fd => runD C (callF C fs k) fd vs μ else (fs[f - mB]?).bind fun fd => runM C (callF C fs k) fd vs μ
end Mu

namespace Mu
open PySem PySem.Spec
open PyProof.Rows L2

/-! ### data as it lies in the abstract heap -/
/-- a list to be read, the object known -/
def LsX (K : PySem.W.Frag) (H : Hp) (a : Addr) (vs : List V) : Prop :=
  Rd H a (.lst vs) ∨ ∃ (its : Array Value) (n : Nat), K.lookup a = some { cls := .type "list", data := .seq its n } ∧ its.size ≤ sizeLine ∧ Vals vs its.toList
theorem LsX.sql {K : PySem.W.Frag} {H : Hp} {a : Addr} {vs : List V} (h : LsX K H a vs) : SqL K H a vs := by
  rcases h with h | ⟨its, n, h, z, r⟩
  · exact .inl h
  · exact .inr ⟨_, its, n, h, rfl, rfl, rfl, z, r⟩
theorem LsX.obj {X : Cx} {pins : List (Addr × Obj)} {σ : L2.St} {H : Hp} {s : Shared} {a : Addr} {vs : List V} (I : Inv X pins σ H s) (h : LsX X.K H a vs) :
    vs.length ≤ sizeLine ∧ ∃ (its : List Value) (n : Nat), Vals vs its ∧ s.heap.get? a = some { cls := .type "list", data := .seq its.toArray n } := by
  rcases h with h | ⟨its, n, h, z, r⟩
  · obtain ⟨z, its, n, r, e⟩ := h.ok I.hok
    exact ⟨z, its, n, r, e⟩
  · refine ⟨by rw [r.length]; simpa using z, its.toList, n, r, ?_⟩
    rw [I.kIn a _ h]
mutual
inductive Rp (K : PySem.W.Frag) (H : Hp) : V → D → Prop where
  | non : Rp K H .non .none
  | bl (b : Bool) : Rp K H (.bl b) (.bool b)
  | int (i : Int) : Rp K H (.int i) (.int i)
  | str (x : Str) : Rp K H (.str x) (.str x)
  | lst {a : Addr} {vs : List V} {ds : List D} (h : LsX K H a vs) (r : RpA K H vs ds) (z : ds.length ≤ sizeLine) : Rp K H (.ref a) (.list ds)
  | tup {a : Addr} {vs : List V} {ds : List D} (h : SqT K H a vs) (r : RpA K H vs ds) (z : ds.length ≤ sizeLine) : Rp K H (.ref a) (.tuple ds)
  | dct {a : Addr} {kvs : List (Key × V)} (h : H a = some (.dK kvs)) : Rp K H (.ref a) (.dict [])
inductive RpA (K : PySem.W.Frag) (H : Hp) : List V → List D → Prop where
  | nil : RpA K H [] []
  | cons {v : V} {x : D} {vs : List V} {xs : List D} (h : Rp K H v x) (t : RpA K H vs xs) : RpA K H (v :: vs) (x :: xs)
end
/-- all that was stands -/
def Le (G H : Hp) : Prop := ∀ a o, G a = some o → H a = some o
theorem Le.rfl' (G : Hp) : Le G G := fun _ _ h => h
theorem Le.trans {A B C : Hp} (x : Le A B) (y : Le B C) : Le A C := fun a o h => y a o (x a o h)
theorem Le.new {H : Hp} {p : Addr} {o : HO} (h : H p = none) : Le H (upd H p o) := fun b u e => by
  rw [upd_ne (ne_of_none e h)]; exact e
variable {K : PySem.W.Frag} {Fr G G' H H' : Hp} {M M' : Nat → Addr} {μ μ' : Store} {ρ ρ' : Rho} {σ σ' : L2.St}
theorem Le.lsx {a : Addr} {vs : List V} (e : Le G H) (h : LsX K G a vs) : LsX K H a vs := by
  rcases h with (h | ⟨o, h⟩) | h
  · exact .inl (.inl (e _ _ h))
  · exact .inl (.inr ⟨o, e _ _ h⟩)
  · exact .inr h
theorem Le.sqt {a : Addr} {vs : List V} (e : Le G H) (h : SqT K G a vs) : SqT K H a vs := by
  rcases h with (h | ⟨o, h⟩) | h
  · exact .inl (.inl (e _ _ h))
  · exact .inl (.inr ⟨o, e _ _ h⟩)
  · exact .inr h
mutual
theorem Rp.mono (e : Le G H) : ∀ {x : D} {v : V}, Rp K G v x → Rp K H v x
  | .none, _, h => by cases h; exact .non
  | .bool _, _, h => by cases h; exact .bl _
  | .int _, _, h => by cases h; exact .int _
  | .str _, _, h => by cases h; exact .str _
  | .list ds, _, h => by
    cases h with
    | lst h r z => exact .lst (e.lsx h) (RpA.mono e r) z
  | .tuple ds, _, h => by
    cases h with
    | tup h r z => exact .tup (e.sqt h) (RpA.mono e r) z
  | .dict _, _, h => by
    cases h with
    | dct h => exact .dct (e _ _ h)
theorem RpA.mono (e : Le G H) : ∀ {xs : List D} {vs : List V}, RpA K G vs xs → RpA K H vs xs
  | [], _, h => by cases h; exact .nil
  | x :: xs, _, h => by
    cases h with
    | cons h t => exact .cons (Rp.mono e h) (RpA.mono e t)
end
mutual
theorem Rp.dp : ∀ {x : D} {v : V}, x.canLay0 = true → Rp K H v x → Dp K H v x
  | .none, _, _, h => by cases h; exact .non
  | .bool _, _, _, h => by cases h; exact .bl _
  | .int _, _, _, h => by cases h; exact .int _
  | .str _, _, _, h => by cases h; exact .str _
  | .list ds, _, c, h => by
    cases h with
    | lst h r z => exact .lst h.sql (RpA.dp (by simpa [PyData.canLay0] using c) r)
  | .tuple ds, _, c, h => by
    cases h with
    | tup h r z => exact .tup h (RpA.dp (by simpa [PyData.canLay0] using c) r)
  | .dict _, _, c, _ => by simp [PyData.canLay0] at c
theorem RpA.dp : ∀ {xs : List D} {vs : List V}, PyData.canLayAll0 xs = true → RpA K H vs xs → DpAll K H vs xs
  | [], _, _, h => by cases h; exact .nil
  | x :: xs, _, c, h => by
    have c' : x.canLay0 = true ∧ PyData.canLayAll0 xs = true := by simpa [PyData.canLayAll0] using c
    cases h with
    | cons h t => exact .cons (Rp.dp c'.1 h) (RpA.dp c'.2 t)
end
theorem RpA.length : ∀ {vs : List V} {xs : List D}, RpA K H vs xs → vs.length = xs.length
  | _, _, .nil => rfl
  | _, _, .cons _ t => congrArg (· + 1) (RpA.length t)
theorem RpA.get : ∀ {vs : List V} {xs : List D} {i : Nat} {x : D}, RpA K H vs xs → xs[i]? = some x → ∃ v, vs[i]? = some v ∧ Rp K H v x
  | _, _, _, _, .nil, e => by simp at e
  | _, _, 0, _, .cons h _, e => by simp at e; subst e; exact ⟨_, rfl, h⟩
  | _, _, i + 1, x, .cons _ t, e => by
    obtain ⟨v, h1, h2⟩ := RpA.get (i := i) (x := x) t (by simpa using e)
    exact ⟨v, by simpa using h1, h2⟩
theorem RpA.get' : ∀ {vs : List V} {xs : List D} {i : Nat} {v : V}, RpA K H vs xs → vs[i]? = some v → ∃ x, xs[i]? = some x ∧ Rp K H v x
  | _, _, _, _, .nil, e => by simp at e
  | _, _, 0, _, .cons h _, e => by simp at e; subst e; exact ⟨_, rfl, h⟩
  | _, _, i + 1, v, .cons _ t, e => by
    obtain ⟨x, h1, h2⟩ := RpA.get' (i := i) (v := v) t (by simpa using e)
    exact ⟨x, by simpa using h1, h2⟩
theorem RpA.append : ∀ {vs ws : List V} {xs ys : List D}, RpA K H vs xs → RpA K H ws ys → RpA K H (vs ++ ws) (xs ++ ys)
  | _, _, _, _, .nil, s => s
  | _, _, _, _, .cons h t, s => .cons h (RpA.append t s)
theorem RpA.take : ∀ {vs : List V} {xs : List D} (n : Nat), RpA K H vs xs → RpA K H (vs.take n) (xs.take n)
  | _, _, 0, _ => .nil
  | _, _, _ + 1, .nil => .nil
  | _, _, n + 1, .cons h t => .cons h (RpA.take n t)
theorem RpA.drop : ∀ {vs : List V} {xs : List D} (n : Nat), RpA K H vs xs → RpA K H (vs.drop n) (xs.drop n)
  | _, _, 0, h => h
  | _, _, _ + 1, .nil => .nil
  | _, _, n + 1, .cons _ t => RpA.drop n t
theorem RpA.set : ∀ {vs : List V} {xs : List D} (n : Nat) {v : V} {x : D}, Rp K H v x → RpA K H vs xs → RpA K H (vs.set n v) (xs.set n x)
  | _, _, _, _, _, _, .nil => .nil
  | _, _, 0, _, _, r, .cons _ t => .cons r t
  | _, _, n + 1, _, _, r, .cons h t => .cons h (RpA.set n r t)
theorem RpA.rep {vs : List V} {xs : List D} (h : RpA K H vs xs) : ∀ k : Nat, RpA K H (List.replicate k vs).flatten (List.replicate k xs).flatten
  | 0 => .nil
  | k + 1 => by rw [List.replicate_succ, List.replicate_succ, List.flatten_cons, List.flatten_cons]; exact h.append (RpA.rep h k)
theorem RpA.ints : ∀ {vs : List V} {xs : List D} {ns : List Int}, RpA K H vs xs → xs = ns.map PyData.int → vs = ns.map V.int
  | _, _, [], h, e => by subst e; cases h; rfl
  | _, _, n :: ns, h, e => by
    subst e
    cases h with
    | cons h t => cases h; rw [RpA.ints t rfl]; rfl
theorem RpA.bools : ∀ {vs : List V} {xs : List D} {bs : List Bool}, RpA K H vs xs → boolsD xs = some bs → vs = bs.map V.bl
  | _, [], bs, h, e => by cases h; simp [boolsD] at e; subst e; rfl
  | _, x :: xs, bs, h, e => by
    cases h with
    | cons h t =>
      cases x with
      | bool b =>
        simp only [boolsD, Option.map_eq_some_iff] at e
        obtain ⟨cs, e1, rfl⟩ := e
        cases h
        rw [RpA.bools t e1]; rfl
      | _ => simp [boolsD] at e

/-! ### the state -/
inductive RV (K : PySem.W.Frag) (M : Nat → Addr) (G : Hp) : V → Val → Prop where
  | d {v : V} {x : D} (h : Rp K G v x) : RV K M G v (.d x)
  | p (i : Nat) : RV K M G (.ref (M i)) (.p i)
structure SS (K : PySem.W.Frag) (Fr : Hp) (M : Nat → Addr) (G H : Hp) (μ : Store) : Prop where
  sub : Le G H
  cell : ∀ (i : Nat) (ds : List D), μ[i]? = some (some ds) → ∃ vs, H (M i) = some (.lst vs) ∧ RpA K G vs ds ∧ ds.length ≤ sizeLine
  out : ∀ (i : Nat) (ds : List D), μ[i]? = some (some ds) → G (M i) = none
  inj : ∀ (i j : Nat) (ds es : List D), μ[i]? = some (some ds) → μ[j]? = some (some es) → M i = M j → i = j
  frm : Le Fr H
  frG : ∀ (a : Addr) (o : HO), Fr a = some o → G a = none
  frM : ∀ (i : Nat) (ds : List D), μ[i]? = some (some ds) → Fr (M i) = none
structure RR (K : PySem.W.Frag) (M : Nat → Addr) (G : Hp) (ρ : Rho) (σ : L2.St) : Prop where
  len : ρ.length = σ.length
  at_ : ∀ (i : Nat) (w : Val), ρ[i]? = some (some w) → ∃ v, σ[i]? = some (some v) ∧ RV K M G v w
theorem RV.mono {v : V} {w : Val} (e : Le G G') (h : RV K M G v w) : RV K M G' v w := by
  cases h with
  | d h => exact .d (h.mono e)
  | p i => exact .p i
theorem RR.mono (e : Le G G') (h : RR K M G ρ σ) : RR K M G' ρ σ := ⟨h.len, fun i w q => let ⟨v, a, b⟩ := h.at_ i w q; ⟨v, a, b.mono e⟩⟩
theorem RR.set (h : RR K M G ρ σ) {i : Nat} {v : V} {w : Val} (r : RV K M G v w) : RR K M G (ρ.set i (some w)) (σ.set i (some v)) := by
  refine ⟨by simp [h.len], fun j u q => ?_⟩
  by_cases e : i = j
  · subst e
    rw [List.getElem?_set] at q ⊢
    by_cases hl : i < ρ.length
    · simp [hl] at q
      subst q
      exact ⟨v, by simp [← h.len, hl], r⟩
    · simp [hl] at q
  · rw [List.getElem?_set_ne e] at q ⊢
    exact h.at_ j u q
theorem RR.wiped (h : RR K M G ρ σ) : ∀ vs : List Nat, RR K M G (wipeR ρ vs) (wipe σ vs)
  | [] => h
  | v :: vs => by
    have ih := RR.wiped h vs
    unfold wipeR wipe
    refine ⟨by simp [ih.len], fun j u q => ?_⟩
    by_cases e : v = j
    · subst e
      rw [List.getElem?_set] at q
      by_cases hl : v < (wipeR ρ vs).length
      · simp [hl] at q
      · simp [hl] at q
    · rw [List.getElem?_set_ne e] at q ⊢
      exact ih.at_ j u q
theorem SS.rd (s : SS K Fr M G H μ) {v : V} {w : Val} {x : D} (r : RV K M G v w) (e : deref μ w = some x) : Rp K H v x := by
  cases r with
  | d h => simp only [deref, Option.some.injEq] at e; subst e; exact h.mono s.sub
  | p i =>
    unfold deref at e
    simp only at e
    split at e
    · rename_i ds hd
      cases e
      obtain ⟨vs, h1, h2, z⟩ := s.cell i ds hd
      exact .lst (.inl (.inl h1)) (h2.mono s.sub) z
    · cases e
theorem SS.rdL (s : SS K Fr M G H μ) {v : V} {w : Val} {ds : List D} (r : RV K M G v w) (e : deref μ w = some (.list ds)) : ∃ a vs, v = .ref a ∧ LsX K H a vs ∧ RpA K G vs ds ∧ ds.length ≤ sizeLine := by
  cases r with
  | d h =>
    simp only [deref, Option.some.injEq] at e; subst e
    cases h with
    | lst h r z => exact ⟨_, _, rfl, s.sub.lsx h, r, z⟩
  | p i =>
    unfold deref at e
    simp only at e
    split at e
    · rename_i es hd
      cases e
      obtain ⟨vs, h1, h2, z⟩ := s.cell i _ hd
      exact ⟨_, _, rfl, .inl (.inl h1), h2, z⟩
    · cases e
theorem SS.rdT (s : SS K Fr M G H μ) {v : V} {w : Val} {ds : List D} (r : RV K M G v w) (e : deref μ w = some (.tuple ds)) : ∃ a vs, v = .ref a ∧ SqT K H a vs ∧ RpA K G vs ds ∧ ds.length ≤ sizeLine := by
  cases r with
  | d h =>
    simp only [deref, Option.some.injEq] at e; subst e
    cases h with
    | tup h r z => exact ⟨_, _, rfl, s.sub.sqt h, r, z⟩
  | p i =>
    unfold deref at e
    simp only at e
    split at e <;> cases e
theorem SS.frFree (s : SS K Fr M G H μ) {p : Addr} (hp : H p = none) : Fr p = none := by
  cases q : Fr p with
  | none => rfl
  | some u => rw [s.frm p u q] at hp; cases hp
/-- a new object of ours -/
theorem SS.new (s : SS K Fr M G H μ) {p : Addr} {o : HO} (hp : H p = none) : SS K Fr M (upd G p o) (upd H p o) μ ∧ Le G (upd G p o) := by
  have gp : G p = none := by
    cases q : G p with
    | none => rfl
    | some u => rw [s.sub p u q] at hp; cases hp
  have le : Le G (upd G p o) := Le.new gp
  have fp := s.frFree hp
  refine ⟨⟨fun a u e => ?_, fun i ds e => ?_, fun i ds e => ?_, s.inj, s.frm.trans (Le.new hp), fun a u e => by rw [upd_ne (ne_of_none e fp)]; exact s.frG a u e, s.frM⟩, le⟩
  · by_cases h : a = p
    · subst h; rw [upd_same] at e ⊢; exact e
    · rw [upd_ne h] at e ⊢; exact s.sub a u e
  · obtain ⟨vs, h1, h2, z⟩ := s.cell i ds e
    exact ⟨vs, by rw [upd_ne (ne_of_none h1 hp)]; exact h1, h2.mono le, z⟩
  · obtain ⟨vs, h1, _⟩ := s.cell i ds e
    rw [upd_ne (ne_of_none h1 hp)]; exact s.out i ds e
/-- .. that is not ours to read -/
theorem SS.new' (s : SS K Fr M G H μ) {p : Addr} {o : HO} (hp : H p = none) : SS K Fr M G (upd H p o) μ := by
  refine ⟨s.sub.trans (Le.new hp), fun i ds e => ?_, s.out, s.inj, s.frm.trans (Le.new hp), s.frG, s.frM⟩
  obtain ⟨vs, h1, h2, z⟩ := s.cell i ds e
  exact ⟨vs, by rw [upd_ne (ne_of_none h1 hp)]; exact h1, h2, z⟩
theorem SS.free (s : SS K Fr M G H μ) {p : Addr} (hp : H p = none) : G p = none := by
  cases q : G p with
  | none => rfl
  | some u => rw [s.sub p u q] at hp; cases hp
theorem SS.tup (s : SS K Fr M G H μ) {p : Addr} {vs : List V} {xs : List D} (hp : H p = none) (r : RpA K G vs xs) (z : xs.length ≤ sizeLine) :
    ∃ G', Le G G' ∧ SS K Fr M G' (upd H p (.tup vs)) μ ∧ Rp K G' (.ref p) (.tuple xs) := by
  obtain ⟨a, b⟩ := s.new (o := .tup vs) hp
  exact ⟨_, b, a, .tup (.inl (.inl upd_same)) (r.mono b) z⟩
theorem SS.lst (s : SS K Fr M G H μ) {p : Addr} {vs : List V} {xs : List D} (hp : H p = none) (r : RpA K G vs xs) (z : xs.length ≤ sizeLine) :
    ∃ G', Le G G' ∧ SS K Fr M G' (upd H p (.lst vs)) μ ∧ Rp K G' (.ref p) (.list xs) := by
  obtain ⟨a, b⟩ := s.new (o := .lst vs) hp
  exact ⟨_, b, a, .lst (.inl (.inl upd_same)) (r.mono b) z⟩
/-- a list of ours is not changed any more -/
theorem SS.frz (s : SS K Fr M G H μ) {i : Nat} {ds : List D} (e : μ[i]? = some (some ds)) :
    ∃ G', Le G G' ∧ SS K Fr M G' H (μ.set i none) ∧ Rp K G' (.ref (M i)) (.list ds) := by
  obtain ⟨vs, h1, h2, z⟩ := s.cell i ds e
  have g := s.out i ds e
  have le : Le G (upd G (M i) (.lst vs)) := Le.new g
  have live : ∀ j es, (μ.set i none)[j]? = some (some es) → j ≠ i ∧ μ[j]? = some (some es) := fun j es q => by
    by_cases h : i = j
    · subst h
      have hi : i < μ.length := (List.getElem?_eq_some_iff.mp e).1
      rw [List.getElem?_set_self hi] at q
      simp at q
    · rw [List.getElem?_set_ne h] at q
      exact ⟨fun z => h z.symm, q⟩
  refine ⟨upd G (M i) (.lst vs), le, ⟨fun a u q => ?_, fun j es q => ?_, fun j es q => ?_, fun j k es fs q r => s.inj j k es fs (live j es q).2 (live k fs r).2, s.frm, fun a u q => by rw [upd_ne (ne_of_none q (s.frM i ds e))]; exact s.frG a u q, fun j es q => s.frM j es (live j es q).2⟩, .lst (.inl (.inl upd_same)) (h2.mono le) z⟩
  · by_cases h : a = M i
    · subst h; rw [upd_same] at q; cases q; exact h1
    · rw [upd_ne h] at q; exact s.sub a u q
  · obtain ⟨ws, a, b, c⟩ := s.cell j es (live j es q).2
    exact ⟨ws, a, b.mono le, c⟩
  · rw [upd_ne (fun z => (live j es q).1 (s.inj j i es ds (live j es q).2 e z))]
    exact s.out j es (live j es q).2
/-- a list of ours is changed -/
theorem SS.put (s : SS K Fr M G H μ) {i : Nat} {ds es : List D} {vs : List V} (e : μ[i]? = some (some ds)) (r : RpA K G vs es) (z : es.length ≤ sizeLine) : SS K Fr M G (upd H (M i) (.lst vs)) (μ.set i (some es)) := by
  have hi : i < μ.length := (List.getElem?_eq_some_iff.mp e).1
  have live : ∀ j fs, (μ.set i (some es))[j]? = some (some fs) → (j = i ∧ fs = es) ∨ (j ≠ i ∧ μ[j]? = some (some fs)) := fun j fs q => by
    by_cases h : i = j
    · subst h
      rw [List.getElem?_set_self hi] at q
      cases q
      exact .inl ⟨rfl, rfl⟩
    · rw [List.getElem?_set_ne h] at q
      exact .inr ⟨fun z => h z.symm, q⟩
  have any : ∀ j fs, (μ.set i (some es))[j]? = some (some fs) → ∃ gs, μ[j]? = some (some gs) := fun j fs q => by
    rcases live j fs q with ⟨rfl, _⟩ | ⟨_, q⟩
    · exact ⟨_, e⟩
    · exact ⟨_, q⟩
  refine ⟨fun a u q => ?_, fun j fs q => ?_, fun j fs q => ?_, fun j k fs gs q r => ?_, fun a u q => by rw [upd_ne (ne_of_none q (s.frM i ds e))]; exact s.frm a u q, s.frG, fun j fs q => let ⟨gs, r⟩ := any j fs q; s.frM j gs r⟩
  · rw [upd_ne (fun z => by rw [z, s.out i ds e] at q; cases q)]
    exact s.sub a u q
  · rcases live j fs q with ⟨rfl, rfl⟩ | ⟨h, q⟩
    · exact ⟨vs, upd_same, r, z⟩
    · obtain ⟨ws, a, b, c⟩ := s.cell j fs q
      exact ⟨ws, by rw [upd_ne (fun z => h (s.inj j i fs ds q e z))]; exact a, b, c⟩
  · obtain ⟨gs, q⟩ := any j fs q
    exact s.out j gs q
  · obtain ⟨_, q⟩ := any j fs q
    obtain ⟨_, r⟩ := any k gs r
    exact s.inj j k _ _ q r
/-- a new list becomes one that is changed -/
theorem SS.thaw (s : SS K Fr M G H μ) {p : Addr} {vs : List V} {ds : List D} (hp : H p = some (.lst vs)) (g : G p = none) (n : ∀ i ds, μ[i]? = some (some ds) → M i ≠ p) (fp : Fr p = none) (r : RpA K G vs ds) (z : ds.length ≤ sizeLine) :
    SS K Fr (fun j => if j = μ.length then p else M j) G H (μ ++ [some ds]) := by
  have live : ∀ j es, (μ ++ [some ds])[j]? = some (some es) → (j = μ.length ∧ es = ds) ∨ (j < μ.length ∧ j ≠ μ.length ∧ μ[j]? = some (some es)) := fun j es q => by
    by_cases h : j < μ.length
    · rw [List.getElem?_append_left h] at q
      exact .inr ⟨h, Nat.ne_of_lt h, q⟩
    · rw [List.getElem?_append_right (by omega)] at q
      by_cases h2 : j - μ.length = 0
      · rw [h2] at q; simp at q; exact .inl ⟨by omega, q.symm⟩
      · have : ([some ds] : Store)[j - μ.length]? = none := List.getElem?_eq_none (by simp; omega)
        rw [this] at q; cases q
  refine ⟨s.sub, fun j es q => ?_, fun j es q => ?_, fun j k es fs q r' e => ?_, s.frm, s.frG, fun j es q => ?_⟩
  · rcases live j es q with ⟨rfl, rfl⟩ | ⟨_, h, q⟩
    · exact ⟨vs, by simpa using hp, r, z⟩
    · simp only [h, if_false]; exact s.cell j es q
  · rcases live j es q with ⟨rfl, rfl⟩ | ⟨_, h, q⟩
    · simpa using g
    · simp only [h, if_false]; exact s.out j es q
  · rcases live j es q with ⟨e1, _⟩ | ⟨_, h, q1⟩ <;> rcases live k fs r' with ⟨e2, _⟩ | ⟨_, h', r1⟩
    · rw [e1, e2]
    · simp only [e1, if_true, h', if_false] at e; exact absurd e.symm (n k fs r1)
    · simp only [e2, if_true, h, if_false] at e; exact absurd e (n j es q1)
    · simp only [h, h', if_false] at e; exact s.inj j k es fs q1 r1 e
  · rcases live j es q with ⟨rfl, rfl⟩ | ⟨_, h, q1⟩
    · simpa using fp
    · simp only [h, if_false]; exact s.frM j es q1
theorem SS.take (s : SS K Fr M G H μ) (n : Nat) : SS K Fr M G H (μ.take n) := by
  have live : ∀ j es, (μ.take n)[j]? = some (some es) → μ[j]? = some (some es) := fun j es q => by
    rw [List.getElem?_take] at q
    split at q
    · exact q
    · cases q
  exact ⟨s.sub, fun j es q => s.cell j es (live j es q), fun j es q => s.out j es (live j es q), fun j k es fs q r => s.inj j k es fs (live j es q) (live k fs r), s.frm, s.frG, fun j es q => s.frM j es (live j es q)⟩
theorem SS.reM (s : SS K Fr M G H μ) (h : ∀ i, i < μ.length → M' i = M i) : SS K Fr M' G H μ := by
  have lt : ∀ j es, μ[j]? = some (some es) → j < μ.length := fun j es q => (List.getElem?_eq_some_iff.mp q).1
  refine ⟨s.sub, fun j es q => ?_, fun j es q => ?_, fun j k es fs q r e => ?_, s.frm, s.frG, fun j es q => by rw [h j (lt j es q)]; exact s.frM j es q⟩
  · rw [h j (lt j es q)]; exact s.cell j es q
  · rw [h j (lt j es q)]; exact s.out j es q
  · rw [h j (lt j es q), h k (lt k fs r)] at e; exact s.inj j k es fs q r e
end Mu

namespace Mu
open PySem PySem.Spec
open PyProof.Rows L2
variable {X : Cx}

/-! ### operators by data -/
def rd2R (K : PySem.W.Frag) (f : D → D → Option D) : R2 := fun x y H Q => ∃ (Fr : Hp) (M : Nat → Addr) (G : Hp) (μ : Store) (w1 w2 : Val) (d1 d2 z : D), SS K Fr M G H μ ∧ RV K M G x w1 ∧ RV K M G y w2 ∧ deref μ w1 = some d1 ∧ deref μ w2 = some d2 ∧ f d1 d2 = some z ∧
  ∀ v H' G', Le G G' → SS K Fr M G' H' μ → Rp K G' v z → Q v H'
def rd1R (K : PySem.W.Frag) (f : D → Option D) : V → Hp → VK → Prop := fun x H Q => ∃ (Fr : Hp) (M : Nat → Addr) (G : Hp) (μ : Store) (w1 : Val) (d1 z : D), SS K Fr M G H μ ∧ RV K M G x w1 ∧ deref μ w1 = some d1 ∧ f d1 = some z ∧
  ∀ v H' G', Le G G' → SS K Fr M G' H' μ → Rp K G' v z → Q v H'
def BOp.op : BOp → Operator
  | .add => .Add
  | .sub => .Sub
  | .mul => .Mult
  | .fdiv => .FloorDiv
  | .mod => .Mod
def COp.op : COp → CmpOp
  | .eq => .Eq
  | .ne => .NotEq
  | .lt => .Lt
  | .le => .LtE
  | .gt => .Gt
  | .ge => .GtE
  | .inn => .In
  | .nin => .NotIn
theorem mulOk_C {i j : Int} (h : mulOk i j = true) : CMul i j := by
  simp only [mulOk, Bool.or_eq_true, Bool.and_eq_true, decide_eq_true_eq] at h
  exact h
theorem cat_lsx : OpR X (binaryOp .Add) (fun x y H Q => ∃ a b xs ys, x = .ref a ∧ y = .ref b ∧ LsX X.K H a xs ∧ LsX X.K H b ys ∧ xs.length + ys.length ≤ sizeLine ∧ ∀ p, H p = none → Q (.ref p) (upd H p (.lst (xs ++ ys)))) := by
  intro pins s σ H x y v u Q I rx ry h
  obtain ⟨a, b, xs, ys, rfl, rfl, ha, hb, hz, q⟩ := h
  cases rx
  cases ry
  obtain ⟨_, i1, n1, r1, e1⟩ := ha.obj I
  obtain ⟨_, i2, n2, r2, e2⟩ := hb.obj I
  have l1 := r1.length
  have l2 := r2.length
  refine PySem.P.add_list e1 e2 ?_ (by simp only [List.size_toArray]; omega)
  rw [show i1.toArray ++ i2.toArray = (i1 ++ i2).toArray by simp]
  exact ⟨.ref _, _, I.lnew (t' := s.toks) (r1.append r2) (by rw [List.length_append]; exact hz), rfl, q _ I.fresh⟩
theorem op_bop (o : BOp) : OpR X (binaryOp o.op) (rd2R X.K (bopD o)) := by
  intro pins s σ H x y v u Q I rx ry h
  obtain ⟨Fr, M, G, μ, w1, w2, d1, d2, z, ss, r1, r2, e1, e2, e3, k⟩ := h
  have p1 := ss.rd r1 e1
  have p2 := ss.rd r2 e2
  cases o with
  | add =>
    cases d1 with
    | int i =>
      cases d2 with
      | int j =>
        simp only [bopD, Option.some.injEq] at e3
        subst e3
        cases p1
        cases p2
        exact op_add pins s σ H _ _ v u Q I rx ry ⟨i, j, rfl, rfl, k _ H G (Le.rfl' _) ss (.int _)⟩
      | _ => simp [bopD] at e3
    | str i =>
      cases d2 with
      | str j =>
        simp only [bopD] at e3
        split at e3
        · rename_i hz
          cases e3
          cases p1
          cases p2
          exact op_add_str pins s σ H _ _ v u Q I rx ry ⟨i, j, rfl, rfl, hz, k _ H G (Le.rfl' _) ss (.str _)⟩
        · cases e3
      | _ => simp [bopD] at e3
    | list xs =>
      cases d2 with
      | list ys =>
        simp only [bopD] at e3
        split at e3
        · rename_i hz
          cases e3
          obtain ⟨a, vs, rfl, h1, q1, z1⟩ := ss.rdL r1 e1
          obtain ⟨b, ws, rfl, h2, q2, z2⟩ := ss.rdL r2 e2
          refine cat_lsx pins s σ H _ _ v u Q I rx ry ⟨a, b, vs, ws, rfl, rfl, h1, h2, by rw [q1.length, q2.length]; exact hz, fun p hp => ?_⟩
          obtain ⟨G', le, s', r'⟩ := ss.lst hp (q1.append q2) (by rw [List.length_append]; exact hz)
          exact k _ _ G' le s' r'
        · cases e3
      | _ => simp [bopD] at e3
    | tuple xs =>
      cases d2 with
      | tuple ys =>
        simp only [bopD] at e3
        split at e3
        · rename_i hz
          cases e3
          obtain ⟨a, vs, rfl, h1, q1, z1⟩ := ss.rdT r1 e1
          obtain ⟨b, ws, rfl, h2, q2, z2⟩ := ss.rdT r2 e2
          have l1 := q1.length
          have l2 := q2.length
          refine op_catA pins s σ H _ _ v u Q I rx ry ⟨a, b, vs, ws, rfl, rfl, h1, h2, by omega, fun e => ?_, fun _ e => ?_, fun _ _ p hp => ?_⟩
          · subst e
            cases q1
            cases w2 with
            | d x2 =>
              simp only [deref, Option.some.injEq] at e2
              subst e2
              cases r2 with
              | d r2 => exact k _ H G (Le.rfl' _) ss r2
            | p i => unfold deref at e2; simp only at e2; split at e2 <;> cases e2
          · subst e
            cases q2
            rw [List.append_nil] at k
            cases w1 with
            | d x2 =>
              simp only [deref, Option.some.injEq] at e1
              subst e1
              cases r1 with
              | d r1 => exact k _ H G (Le.rfl' _) ss r1
            | p i => unfold deref at e1; simp only at e1; split at e1 <;> cases e1
          · obtain ⟨G', le, s', r'⟩ := ss.tup hp (q1.append q2) (by rw [List.length_append]; exact hz)
            exact k _ _ G' le s' r'
        · cases e3
      | _ => simp [bopD] at e3
    | _ => simp [bopD] at e3
  | sub =>
    cases d1 with
    | int i =>
      cases d2 with
      | int j =>
        simp only [bopD, Option.some.injEq] at e3
        subst e3
        cases p1
        cases p2
        exact op_sub pins s σ H _ _ v u Q I rx ry ⟨i, j, rfl, rfl, k _ H G (Le.rfl' _) ss (.int _)⟩
      | _ => simp [bopD] at e3
    | _ => simp [bopD] at e3
  | mul =>
    cases d1 with
    | int i =>
      cases d2 with
      | int j =>
        simp only [bopD] at e3
        split at e3
        · rename_i hm
          cases e3
          cases p1
          cases p2
          exact op_mul pins s σ H _ _ v u Q I rx ry ⟨i, j, rfl, rfl, mulOk_C hm, k _ H G (Le.rfl' _) ss (.int _)⟩
        · cases e3
      | _ => simp [bopD] at e3
    | _ => simp [bopD] at e3
  | fdiv =>
    cases d1 with
    | int i =>
      cases d2 with
      | int j =>
        simp only [bopD] at e3
        split at e3
        · rename_i hm
          cases e3
          cases p1
          cases p2
          exact op_fdiv pins s σ H _ _ v u Q I rx ry ⟨i, j, rfl, rfl, hm, k _ H G (Le.rfl' _) ss (.int _)⟩
        · cases e3
      | _ => simp [bopD] at e3
    | _ => simp [bopD] at e3
  | mod =>
    cases d1 with
    | int i =>
      cases d2 with
      | int j =>
        simp only [bopD] at e3
        split at e3
        · rename_i hm
          cases e3
          cases p1
          cases p2
          exact op_mod pins s σ H _ _ v u Q I rx ry ⟨i, j, rfl, rfl, hm, k _ H G (Le.rfl' _) ss (.int _)⟩
        · cases e3
      | _ => simp [bopD] at e3
    | _ => simp [bopD] at e3

theorem room_in' {A : Around} {d : D} {ys : List D} (h : SeqAt.shaped d = true) (hu : A.units + 65 < cLine) : A.units + 1 + min (PyData.depthAll ys) d.depth < cLine := by
  have h1 := SeqAt.depth_of_shaped h
  omega
theorem shp_dp {H : Hp} {K : PySem.W.Frag} {x : D} {v : V} (h : shp x = true) (r : Rp K H v x) : Dp K H v x := r.dp (SeqAt.canLay_of_shaped h)
theorem op_cmp (hu : X.A.units + 65 < cLine) (o : COp) : OpR X (compareOp o.op) (rd2R X.K (cmpD o)) := by
  intro pins s σ H x y v u Q I rx ry h
  obtain ⟨Fr, M, G, μ, w1, w2, d1, d2, z, ss, r1, r2, e1, e2, e3, k⟩ := h
  have p1 := ss.rd r1 e1
  have p2 := ss.rd r2 e2
  have hu' : X.A.units + 64 < cLine := by omega
  have ii : ∀ {p : COp} {g : Int → Int → Bool}, (∀ i j, cmpD p (.int i) (.int j) = some (.bool (g i j))) → True := fun _ => trivial
  cases o with
  | eq =>
    simp only [cmpD] at e3
    obtain ⟨b, e4, rfl⟩ := Option.map_eq_some_iff.mp e3
    unfold eqD at e4
    split at e4
    · rename_i b' hb
      cases e4
      unfold strEq at hb
      split at hb
      · cases hb
        cases p1
        cases p2
        refine op_eq pins s σ H _ _ v u Q I rx ry ⟨rfl, ?_⟩
        have q := k _ H G (Le.rfl' _) ss (.bl _)
        simpa using q
      · cases hb
    · split at e4
      · rename_i hs
        cases e4
        exact op_eqD hu' pins s σ H _ _ v u Q I rx ry ⟨_, _, shp_dp hs.1 p1, shp_dp hs.2 p2, hs.1, hs.2, k _ H G (Le.rfl' _) ss (.bl _)⟩
      · cases e4
  | ne =>
    simp only [cmpD] at e3
    obtain ⟨b, e4, rfl⟩ := Option.map_eq_some_iff.mp e3
    unfold eqD at e4
    split at e4
    · rename_i b' hb
      cases e4
      unfold strEq at hb
      split at hb
      · cases hb
        cases p1
        cases p2
        refine op_ne pins s σ H _ _ v u Q I rx ry ⟨rfl, ?_⟩
        have q := k _ H G (Le.rfl' _) ss (.bl _)
        simpa using q
      · cases hb
    · split at e4
      · rename_i hs
        cases e4
        exact op_neD hu' pins s σ H _ _ v u Q I rx ry ⟨_, _, shp_dp hs.1 p1, shp_dp hs.2 p2, hs.1, hs.2, k _ H G (Le.rfl' _) ss (.bl _)⟩
      · cases e4
  | lt =>
    cases d1 with
    | int i =>
      cases d2 with
      | int j =>
        simp only [cmpD, Option.some.injEq] at e3
        subst e3
        cases p1
        cases p2
        exact op_lt pins s σ H _ _ v u Q I rx ry ⟨i, j, rfl, rfl, k _ H G (Le.rfl' _) ss (.bl _)⟩
      | _ => simp [cmpD] at e3
    | _ => simp [cmpD] at e3
  | le =>
    cases d1 with
    | int i =>
      cases d2 with
      | int j =>
        simp only [cmpD, Option.some.injEq] at e3
        subst e3
        cases p1
        cases p2
        exact op_le pins s σ H _ _ v u Q I rx ry ⟨i, j, rfl, rfl, k _ H G (Le.rfl' _) ss (.bl _)⟩
      | _ => simp [cmpD] at e3
    | _ => simp [cmpD] at e3
  | gt =>
    cases d1 with
    | int i =>
      cases d2 with
      | int j =>
        simp only [cmpD, Option.some.injEq] at e3
        subst e3
        cases p1
        cases p2
        exact op_gt pins s σ H _ _ v u Q I rx ry ⟨i, j, rfl, rfl, k _ H G (Le.rfl' _) ss (.bl _)⟩
      | _ => simp [cmpD] at e3
    | _ => simp [cmpD] at e3
  | ge =>
    cases d1 with
    | int i =>
      cases d2 with
      | int j =>
        simp only [cmpD, Option.some.injEq] at e3
        subst e3
        cases p1
        cases p2
        exact op_ge pins s σ H _ _ v u Q I rx ry ⟨i, j, rfl, rfl, k _ H G (Le.rfl' _) ss (.bl _)⟩
      | _ => simp [cmpD] at e3
    | _ => simp [cmpD] at e3
  | inn =>
    cases d2 with
    | list ys =>
      simp only [cmpD] at e3
      split at e3
      · rename_i hs
        cases e3
        exact op_inD hu pins s σ H _ _ v u Q I rx ry ⟨_, _, shp_dp hs.1 p1, shp_dp hs.2 p2, hs.1, hs.2, k _ H G (Le.rfl' _) ss (.bl _)⟩
      · cases e3
    | tuple ys =>
      simp only [cmpD] at e3
      split at e3
      · rename_i hs
        cases e3
        obtain ⟨as, q1⟩ := Dp.reads I _ _ _ (shp_dp hs.1 p1) rx
        obtain ⟨bs, q2⟩ := Dp.reads I _ _ _ (shp_dp hs.2 p2) ry
        refine SeqAt.in_tuple_reads q2 q1 ?_ (SeqAt.canLay_of_shaped hs.1) (room_in' hs.1 hu) ⟨.bl _, H, I, rfl, k _ H G (Le.rfl' _) ss (.bl _)⟩
        have c := SeqAt.canLay_of_shaped hs.2
        simpa [PyData.canLay0] using c
      · cases e3
    | _ => simp [cmpD] at e3
  | nin =>
    cases d2 with
    | list ys =>
      simp only [cmpD] at e3
      split at e3
      · rename_i hs
        cases e3
        exact op_notInD hu pins s σ H _ _ v u Q I rx ry ⟨_, _, shp_dp hs.1 p1, shp_dp hs.2 p2, hs.1, hs.2, k _ H G (Le.rfl' _) ss (.bl _)⟩
      · cases e3
    | tuple ys =>
      simp only [cmpD] at e3
      split at e3
      · rename_i hs
        cases e3
        obtain ⟨as, q1⟩ := Dp.reads I _ _ _ (shp_dp hs.1 p1) rx
        obtain ⟨bs, q2⟩ := Dp.reads I _ _ _ (shp_dp hs.2 p2) ry
        refine SeqAt.notIn_tuple_reads q2 q1 ?_ (SeqAt.canLay_of_shaped hs.1) (room_in' hs.1 hu) ⟨.bl _, H, I, rfl, k _ H G (Le.rfl' _) ss (.bl _)⟩
        have c := SeqAt.canLay_of_shaped hs.2
        simpa [PyData.canLay0] using c
      · cases e3
    | _ => simp [cmpD] at e3

/-! ### truth -/
theorem truV_of {K : PySem.W.Frag} {Fr : Hp} {M : Nat → Addr} {G H : Hp} {μ : Store} {v : V} {w : Val} {x : D} {b : Bool} (ss : SS K Fr M G H μ) (r : RV K M G v w) (e : deref μ w = some x) (h : truD x = some b) : TruV K v H b := by
  have p := ss.rd r e
  cases x with
  | none => cases p; simp only [truD, Option.some.injEq] at h; exact h.symm
  | bool c => cases p; simp only [truD, Option.some.injEq] at h; exact h.symm
  | int i => cases p; simp only [truD, Option.some.injEq] at h; exact h.symm
  | str z =>
    cases p
    simp only [truD] at h
    split at h
    · rename_i hz; cases h; exact ⟨hz, rfl⟩
    · cases h
  | list xs =>
    cases p with
    | lst p q _ =>
      simp only [truD, Option.some.injEq] at h
      refine .inl ⟨_, p.sql, ?_⟩
      subst h
      cases q <;> rfl
  | tuple xs =>
    cases p with
    | tup p q _ =>
      simp only [truD, Option.some.injEq] at h
      refine .inr (.inl ⟨_, p, ?_⟩)
      subst h
      cases q <;> rfl
  | dict _ => simp [truD] at h

/-! ### subscripts, slices -/
theorem ixN_eq {α β : Type} {xs : List α} {ys : List β} (h : xs.length = ys.length) (i : Int) : ixN xs.length i = ixN ys.length i := by rw [h]
theorem atI_rp {K : PySem.W.Frag} {G : Hp} {vs : List V} {xs : List D} {i : Int} {z : D} (r : RpA K G vs xs) (h : atI xs i = some z) : ∃ v, atI vs i = some v ∧ Rp K G v z := by
  unfold atI at h ⊢
  rw [r.length]
  cases e : ixN xs.length i with
  | none => rw [e] at h; cases h
  | some j =>
    rw [e] at h
    exact r.get h
theorem op_idx : IxR X (rd2R X.K idxD) := by
  intro value slice pins s σ H x y v u Q I rx ry h hs
  obtain ⟨Fr, M, G, μ, w1, w2, d1, d2, z, ss, r1, r2, e1, e2, e3, k⟩ := h
  have p1 := ss.rd r1 e1
  have p2 := ss.rd r2 e2
  cases d2 with
  | int i =>
    cases p2
    cases d1 with
    | list xs =>
      obtain ⟨a, vs, rfl, h1, q1, z1⟩ := ss.rdL r1 e1
      obtain ⟨w, h2, q2⟩ := atI_rp q1 (show atI xs i = some z from e3)
      exact ix_list value slice pins s σ H _ _ v u Q I rx ry ⟨a, vs, i, w, rfl, rfl, h1.sql, h2, k _ H G (Le.rfl' _) ss q2⟩ hs
    | tuple xs =>
      obtain ⟨a, vs, rfl, h1, q1, z1⟩ := ss.rdT r1 e1
      obtain ⟨w, h2, q2⟩ := atI_rp q1 (show atI xs i = some z from e3)
      exact ix_tup value slice pins s σ H _ _ v u Q I rx ry ⟨a, vs, i, w, rfl, rfl, h1, h2, k _ H G (Le.rfl' _) ss q2⟩ hs
    | str c =>
      simp only [idxD] at e3
      split at e3
      · rename_i hz
        obtain ⟨n, h1, rfl⟩ := Option.map_eq_some_iff.mp e3
        cases p1
        exact ix_str value slice pins s σ H _ _ v u Q I rx ry ⟨c, i, n, rfl, rfl, hz, h1, k _ H G (Le.rfl' _) ss (.str _)⟩ hs
      · cases e3
    | _ => simp [idxD] at e3
  | _ => cases d1 <;> simp [idxD] at e3
def rSli (K : PySem.W.Frag) : V → Option Int → Option Int → Hp → VK → Prop := fun x lo hi H Q => ∃ (Fr : Hp) (M : Nat → Addr) (G : Hp) (μ : Store) (w1 : Val) (d1 z : D), SS K Fr M G H μ ∧ RV K M G x w1 ∧ deref μ w1 = some d1 ∧ sliD d1 lo hi = some z ∧
  ∀ v H' G', Le G G' → SS K Fr M G' H' μ → Rp K G' v z → Q v H'
theorem cut_rp {K : PySem.W.Frag} {G : Hp} {vs : List V} {xs : List D} (r : RpA K G vs xs) (lo hi : Option Int) : RpA K G (cutV vs lo hi) (cutD xs lo hi) := by
  unfold cutV cutD
  rw [r.length]
  exact (r.drop _).take _
theorem cut_len (xs : List D) (lo hi : Option Int) (z : xs.length ≤ sizeLine) : (cutD xs lo hi).length ≤ sizeLine := by
  unfold cutD
  rw [List.length_take, List.length_drop]
  omega
theorem op_sli : SlR X (rSli X.K) := by
  intro pins s σ H x v vl vu lo hi sl Q I rx hs pl pu h
  obtain ⟨Fr, M, G, μ, w1, d1, z, ss, r1, e1, e3, k⟩ := h
  cases d1 with
  | list xs =>
    simp only [sliD, Option.some.injEq] at e3
    subst e3
    obtain ⟨a, vs, rfl, h1, q1, z1⟩ := ss.rdL r1 e1
    refine sl_list pins s σ H _ v vl vu lo hi sl Q I rx hs pl pu ⟨a, vs, rfl, h1.sql, fun p hp => ?_⟩
    obtain ⟨G', le, s', r'⟩ := ss.lst hp (cut_rp q1 lo hi) (cut_len xs lo hi z1)
    exact k _ _ G' le s' r'
  | tuple xs =>
    simp only [sliD, Option.some.injEq] at e3
    subst e3
    have r0 := r1
    obtain ⟨a, vs, rfl, h1, q1, z1⟩ := ss.rdT r1 e1
    refine sl_tupA pins s σ H _ v vl vu lo hi sl Q I rx hs pl pu ⟨a, vs, rfl, h1, fun hw => ?_, fun _ p hp => ?_⟩
    · have ec : cutD xs lo hi = xs := by
        unfold cutD
        rw [← q1.length, hw.1, hw.2, List.drop_zero, Nat.sub_zero, q1.length, List.take_length]
      rw [ec] at k
      cases w1 with
      | d x2 =>
        simp only [deref, Option.some.injEq] at e1
        subst e1
        cases r0 with
        | d r0 => exact k _ H G (Le.rfl' _) ss r0
      | p i => unfold deref at e1; simp only at e1; split at e1 <;> cases e1
    · obtain ⟨G', le, s', r'⟩ := ss.tup hp (cut_rp q1 lo hi) (cut_len xs lo hi z1)
      exact k _ _ G' le s' r'
  | str c =>
    simp only [sliD] at e3
    have p1 := ss.rd r1 e1
    split at e3
    · rename_i hz
      cases e3
      cases p1
      exact sl_str pins s σ H _ v vl vu lo hi sl Q I rx hs pl pu ⟨c, rfl, hz, k _ H G (Le.rfl' _) ss (.str _)⟩
    · cases e3
  | _ => simp [sliD] at e3

/-! ### kinds -/
def Cls.ty : Cls → String
  | .int => "int"
  | .bool => "bool"
  | .str => "str"
  | .tuple => "tuple"
  | .list => "list"
  | .dict => "dict"
inductive Kd | none | bool | int | str | list | tuple | dict
def Kd.ty : Kd → String
  | .none => "NoneType"
  | .bool => "bool"
  | .int => "int"
  | .str => "str"
  | .list => "list"
  | .tuple => "tuple"
  | .dict => "dict"
def kdD : D → Kd
  | .none => .none
  | .bool _ => .bool
  | .int _ => .int
  | .str _ => .str
  | .list _ => .list
  | .tuple _ => .tuple
  | .dict _ => .dict
def isiK : Kd → Cls → Bool
  | .int, .int => true
  | .bool, .int => true
  | .bool, .bool => true
  | .str, .str => true
  | .tuple, .tuple => true
  | .list, .list => true
  | .dict, .dict => true
  | _, _ => false
def tyD (x : D) : String := (kdD x).ty
theorem kit_all (k : Kd) (c : Cls) : kitB k.ty c.ty = some (isiK k c) := by
  cases k <;> cases c <;> decide +kernel
theorem isi_kit (x : D) (c : Cls) : kitB (tyD x) c.ty = some (isiD x c) := by
  rw [show isiD x c = isiK (kdD x) c by cases x <;> cases c <;> rfl]
  exact kit_all _ _
theorem tyX_of {K : PySem.W.Frag} {H : Hp} {v : V} {x : D} (r : Rp K H v x) : TyX K H v (.type (tyD x)) := by
  cases r with
  | non => exact .base .non
  | bl b => exact .base (.bl b)
  | int i => exact .base (.int i)
  | str z => exact .base (.str z)
  | lst h _ _ =>
    rcases h with (h | ⟨o, h⟩) | ⟨its, n, h, _, _⟩
    · exact .base (.lst h)
    · exact .base (.frz h)
    · exact .kList h rfl
  | tup h _ _ =>
    rcases h with (h | ⟨o, h⟩) | ⟨o, its, n, h, hc, _⟩
    · exact .base (.tup h)
    · exact .fTuple h
    · exact .kTuple h hc
  | dct h => exact .base (.dK h)
theorem call_isiD (c : Cls) : CallR X (.builtin "isinstance") (fun vs H Q => ∃ x d, vs = [x, .ty c.ty] ∧ Rp X.K H x d ∧ Q (.bl (isiD d c)) H) := by
  intro pins s σ H vs us Q I r h
  obtain ⟨x, d, rfl, p, q⟩ := h
  exact call_isi pins s σ H _ us Q I r ⟨x, .ty c.ty, _, _, _, rfl, .ty _, tyX_of p, kit_ty (isi_kit d c), q⟩
end Mu

namespace Mu
open PySem PySem.Spec
open PyProof.Rows L2

/-! ### the text and the small language: is this text that meaning's? -/
def BI.nm : BI → String
  | .len => "len"
  | .tup => "tuple"
  | .lst => "list"
  | .int => "int"
  | .bool => "bool"
  | .all => "all"
  | .any => "any"
  | .max => "max"
  | .min => "min"
  | .sum => "sum"
  | .repr => "repr"
def BI.fv : BI → Value
  | .tup => .type "tuple"
  | .lst => .type "list"
  | .int => .type "int"
  | .bool => .type "bool"
  | b => .builtin b.nm
def bltNames : List String := ["len", "tuple", "list", "int", "bool", "all", "any", "max", "min", "sum", "repr", "isinstance", "str", "dict", "range"]
structure Sc where
  N : List Str
  fns : List Str
  cons : List Str
def plainX : Expr → Bool
  | .Starred .. => false
  | .Set .. => false
  | .Slice .. => false
  | _ => true
def plainT : Expr → Bool
  | .UnaryOp .. => false
  | .BoolOp .. => false
  | .IfExp .. => false
  | .Compare .. => false
  | _ => true
def glB (sc : Scope) (x : Str) : Bool := decide (sc.names.lookup x = some .globalImplicit) && !(x == ("__debug__" : Str))
def visB (sc : Scope) (x : Str) : Bool := (decide (sc.names.lookup x = some .local) || decide (sc.names.lookup x = some .cell) || decide (sc.names.lookup x = some .free)) && !(x == ("__debug__" : Str)) && !(x == ("__classdict__" : Str))
def locB (sc : Scope) (x : Str) : Bool := decide (sc.names.lookup x = some .local) || decide (sc.names.lookup x = some .cell)
def ownP (N : List Str) (own : List Nat) : List (Str × Nat) := own.map fun i => (N.getD i ⟨#[]⟩, i)
def Es.len : Es → Nat
  | .nil => 0
  | .cons _ es => es.len + 1
def ckDct (n : Nat) : Expr → Bool
  | .Dict [] [] _ => n == 0
  | .Dict [some (.Constant (.str _) _ _)] [.Constant (.int _) _ _] _ => n == 1
  | _ => false
/-- a target: the slots it stores -/
def ckNm (N : List Str) (sc : Scope) (fn : Str → Bool) (i : Nat) : Expr → Bool
  | .Name x _ => decide (N[i]? = some x) && locB sc x && (fn x || decide (sc.names.lookup x = some .local))
  | _ => false
def ckNms (N : List Str) (sc : Scope) (fn : Str → Bool) : List Nat → List Expr → Bool
  | [], [] => true
  | i :: is, t :: ts => ckNm N sc fn i t && ckNms N sc fn is ts
  | _, _ => false
def ckTg (N : List Str) (sc : Scope) (fn : Str → Bool) : Tg → Expr → Bool
  | .nm i, e => ckNm N sc fn i e
  | .tp is, .Tuple ts _ _ => ckNms N sc fn is ts
  | _, _ => false
def isNs (o : CmpOp) : List CmpOp → List Expr → Bool
  | [p], [.Constant .none _ _] => decide (p = o)
  | _, _ => false
theorem isNs_of {o : CmpOp} {os : List CmpOp} {bs : List Expr} (h : isNs o os bs = true) : ∃ j p, os = [o] ∧ bs = [.Constant .none j p] := by
  unfold isNs at h
  split at h
  · simp only [decide_eq_true_eq] at h
    subst h
    exact ⟨_, _, rfl, rfl⟩
  · exact absurd h Bool.false_ne_true
def isNm (sc : Scope) (s : String) : Expr → Bool
  | .Name y _ => glB sc y && decide (y = (s : Str))
  | _ => false
theorem isNm_of {sc : Scope} {s : String} {e : Expr} (h : isNm sc s e = true) : ∃ p, e = .Name (s : Str) p ∧ glB sc (s : Str) = true := by
  cases e with
  | Name y p =>
    simp only [isNm, Bool.and_eq_true, decide_eq_true_eq] at h
    obtain ⟨h1, rfl⟩ := h
    exact ⟨p, rfl, h1⟩
  | _ => exact absurd h Bool.false_ne_true
/-- may stand as a test -/
def tOk : E → Bool
  | .ite .. => false
  | .inot a => tOk a
  | _ => true
def Es.tOk : Es → Bool
  | .nil => true
  | .cons e es => Mu.tOk e && es.tOk
mutual
def ckE (c : Sc) (sc : Scope) : E → Expr → Bool
  | .var i, .Name x _ => visB sc x && decide (c.N[i]? = some x)
  | .non, .Constant .none _ _ => true
  | .bl b, .Constant (.bool b') _ _ => decide (b = b')
  | .int i, .Constant (.int j) _ _ => decide (i = j)
  | .str s, .Constant (.str x) _ _ => decide ((s : Str) = x)
  | .con x n, .Name y _ => glB sc y && decide ((x : Str) = y) && decide (c.cons[n]? = some y)
  | .tup es, .Tuple ls _ _ => ckEs c sc es ls && decide (es.len ≤ 1000)
  | .lst es, .List ls _ => ckEs c sc es ls && decide (es.len ≤ 1000)
  | .dct n, e => ckDct n e
  | .rep es k, .BinOp (.List ls _) .Mult k' _ => ckEs c sc es ls && decide (es.len ≤ 1000) && ckE c sc k k'
  | .bop o a b, .BinOp a' o' b' _ => decide (o.op = o') && ckE c sc a a' && ckE c sc b b'
  | .neg a, .UnaryOp .USub a' _ => ckE c sc a a'
  | .inot a, .UnaryOp .Not a' _ => ckE c sc a a'
  | .cmp o a b, .Compare a' [o'] [b'] _ => decide (o.op = o') && ckE c sc a a' && ckE c sc b b'
  | .chn o p a b d, .Compare a' [o', p'] [b', d'] _ => decide (o.op = o') && decide (p.op = p') && ckE c sc a a' && ckE c sc b b' && ckE c sc d d'
  | .isN a, .Compare a' os bs _ => isNs .Is os bs && ckE c sc a a'
  | .notN a, .Compare a' os bs _ => isNs .IsNot os bs && ckE c sc a a'
  | .band es, .BoolOp .And ls _ => ckEs c sc es ls && es.tOk
  | .bor es, .BoolOp .Or ls _ => ckEs c sc es ls && es.tOk
  | .ite d a b, .IfExp d' a' b' _ => ckE c sc d d' && tOk d && ckE c sc a a' && ckE c sc b b'
  | .idx a i, .Subscript a' i' _ => ckE c sc a a' && ckE c sc i i'
  | .sli a lo hi, .Subscript a' (.Slice lo' hi' none _) _ => ckE c sc a a' && ckO c sc lo lo' && ckO c sc hi hi'
  | .isi a k, .Call (.Name x _) [a', b'] [] _ => glB sc x && decide (x = ("isinstance" : Str)) && isNm sc k.ty b' && ckE c sc a a'
  | .call f es, .Call (.Name x _) ls [] _ => glB sc x && decide (c.fns[f]? = some x) && decide (f < mB) && ckEs c sc es ls
  | .callM f es, .Call (.Name x _) ls [] _ => glB sc x && decide (c.fns[f]? = some x) && ckEs c sc es ls
  | .bi b a, .Call (.Name x _) [a'] [] _ => glB sc x && decide (x = (b.nm : Str)) && ckE c sc a a'
  | .comp own tg it cs elt, .ListComp elt' [⟨tg', it', ifs', az⟩] scope _ => decide (az = 0) && blkC c.N sc scope (ownP c.N own) && own.all (fun i => decide (i < c.N.length)) && tg.ix.all (fun i => decide (i ∈ own)) &&
      ckI c sc it it' && ckTg c.N (relS scope sc) (fun x => scope.names.lookup x == some .cell) tg tg' && ckEs c (relS scope sc) cs ifs' && cs.tOk && ckE c (relS scope sc) elt elt'
  | .comp2 own tg it tg1 it1 cs elt, .ListComp elt' [⟨tg', it', [], az⟩, ⟨tg1', it1', ifs', az1⟩] scope _ => decide (az = 0) && decide (az1 = 0) && blkC c.N sc scope (ownP c.N own) && own.all (fun i => decide (i < c.N.length)) && tg.ix.all (fun i => decide (i ∈ own)) && tg1.ix.all (fun i => decide (i ∈ own)) &&
      ckI c sc it it' && ckTg c.N (relS scope sc) (fun x => scope.names.lookup x == some .cell) tg tg' && ckI c (relS scope sc) it1 it1' && ckTg c.N (relS scope sc) (fun x => scope.names.lookup x == some .cell) tg1 tg1' && ckEs c (relS scope sc) cs ifs' && cs.tOk && ckE c (relS scope sc) elt elt'
  | _, _ => false
def ckEs (c : Sc) (sc : Scope) : Es → List Expr → Bool
  | .nil, [] => true
  | .cons e es, l :: ls => ckE c sc e l && ckEs c sc es ls
  | _, _ => false
def ckO (c : Sc) (sc : Scope) : Oe → Option Expr → Bool
  | .no, none => true
  | .so e, some l => ckE c sc e l
  | _, _ => false
def ckI (c : Sc) (sc : Scope) : It → Expr → Bool
  | .seq e, l => ckE c sc e l
  | .rng e, .Call (.Name x _) [l] [] _ => glB sc x && decide (x = ("range" : Str)) && ckE c sc e l
  | .rng2 e e', .Call (.Name x _) [l, l'] [] _ => glB sc x && decide (x = ("range" : Str)) && ckE c sc e l && ckE c sc e' l'
  | _, _ => false
end
theorem ck_plain {c : Sc} {sc : Scope} {m : E} {e : Expr} (h : ckE c sc m e = true) : plainX e = true := by
  cases e <;> first
    | rfl
    | (cases m <;> exact h)
end Mu

namespace Mu
open PySem PySem.Spec
open PyProof.Rows L2

/-! ### readings -/
section
variable (K : PySem.W.Frag)
def tv (f : Rho → Store → Option (Val × Store)) : TE := fun σ H Q => ∃ (Fr : Hp) (M : Nat → Addr) (G : Hp) (ρ : Rho) (μ : Store) (r : Val) (μ' : Store), SS K Fr M G H μ ∧ RR K M G ρ σ ∧ f ρ μ = some (r, μ') ∧
  ∀ v H' G', Le G G' → SS K Fr M G' H' μ' → μ'.length = μ.length → RV K M G' v r → Q v H'
def tvT (f : Rho → Store → Option (Bool × Store)) : TT := fun σ H Q => ∃ (Fr : Hp) (M : Nat → Addr) (G : Hp) (ρ : Rho) (μ : Store) (r : Bool) (μ' : Store), SS K Fr M G H μ ∧ RR K M G ρ σ ∧ f ρ μ = some (r, μ') ∧
  ∀ H' G', Le G G' → SS K Fr M G' H' μ' → μ'.length = μ.length → Q r H'
def tvA (f : Rho → Store → Option (List D × Store)) : TA := fun σ H Q => ∃ (Fr : Hp) (M : Nat → Addr) (G : Hp) (ρ : Rho) (μ : Store) (r : List D) (μ' : Store), SS K Fr M G H μ ∧ RR K M G ρ σ ∧ f ρ μ = some (r, μ') ∧
  ∀ vs H' G', Le G G' → SS K Fr M G' H' μ' → μ'.length = μ.length → RpA K G' vs r → Q vs H'
inductive RVs (K : PySem.W.Frag) (M : Nat → Addr) (G : Hp) : List V → List Val → Prop where
  | nil : RVs K M G [] []
  | cons {v : V} {w : Val} {vs : List V} {ws : List Val} (h : RV K M G v w) (t : RVs K M G vs ws) : RVs K M G (v :: vs) (w :: ws)
def tvV (f : Rho → Store → Option (List Val × Store)) : TA := fun σ H Q => ∃ (Fr : Hp) (M : Nat → Addr) (G : Hp) (ρ : Rho) (μ : Store) (r : List Val) (μ' : Store), SS K Fr M G H μ ∧ RR K M G ρ σ ∧ f ρ μ = some (r, μ') ∧
  ∀ vs H' G', Le G G' → SS K Fr M G' H' μ' → μ'.length = μ.length → RVs K M G' vs r → Q vs H'
def tvO (f : Rho → Store → Option (Option Int × Store)) : TO := fun σ H Q => ∃ (Fr : Hp) (M : Nat → Addr) (G : Hp) (ρ : Rho) (μ : Store) (r : Option Int) (μ' : Store), SS K Fr M G H μ ∧ RR K M G ρ σ ∧ f ρ μ = some (r, μ') ∧
  ∀ H' G', Le G G' → SS K Fr M G' H' μ' → μ'.length = μ.length → Q r H'
/-- the list that is walked lies where it lay -/
def AgV (M M' : Nat → Addr) : Val → Prop
  | .p i => M' i = M i
  | _ => True
theorem AgV.rf (M : Nat → Addr) (v : Val) : AgV M M v := by
  cases v <;> first | rfl | trivial
/-- what is walked, by data -/
structure Wk (M : Nat → Addr) (G₀ : Hp) (J : L2.It) (xs : List D) (v : Val) : Prop where
  go : ∀ (Fr : Hp) (M' : Nat → Addr) (i : Nat) (H G : Hp) (μ : Store), SS K Fr M' G H μ → Le G₀ G → AgV M M' v → Still v xs μ → i < xs.length → J.go i H
  yld : ∀ (Fr : Hp) (M' : Nat → Addr) (i : Nat) (H G : Hp) (μ : Store) (x : V) (H' : Hp), SS K Fr M' G H μ → Le G₀ G → AgV M M' v → Still v xs μ → i < xs.length → J.yld i H x H' → H' = H ∧ ∃ d, xs[i]? = some d ∧ Rp K G x d
  stop : ∀ (Fr : Hp) (M' : Nat → Addr) (H G : Hp) (μ : Store), SS K Fr M' G H μ → Le G₀ G → AgV M M' v → Still v xs μ → J.stop xs.length H
def tvI (f : Rho → Store → Option ((List D × Val) × Store)) : TI := fun σ H R => ∃ (Fr : Hp) (M : Nat → Addr) (G : Hp) (ρ : Rho) (μ : Store) (xs : List D) (v : Val) (μ' : Store), SS K Fr M G H μ ∧ RR K M G ρ σ ∧ f ρ μ = some ((xs, v), μ') ∧
  ∀ J H' G', Le G G' → SS K Fr M G' H' μ' → μ'.length = μ.length → xs.length ≤ sizeLine → Still v xs μ' → Wk K M G' J xs v → R J H'
end
theorem RVs.mono {K : PySem.W.Frag} {M : Nat → Addr} {G G' : Hp} (e : Le G G') : ∀ {vs : List V} {ws : List Val}, RVs K M G vs ws → RVs K M G' vs ws
  | _, _, .nil => .nil
  | _, _, .cons h t => .cons (h.mono e) (RVs.mono e t)
theorem RVs.length {K : PySem.W.Frag} {M : Nat → Addr} {G : Hp} : ∀ {vs : List V} {ws : List Val}, RVs K M G vs ws → vs.length = ws.length
  | _, _, .nil => rfl
  | _, _, .cons _ t => congrArg (· + 1) (RVs.length t)

variable {X : Cx} {e : Expr}
theorem _root_.L2.PE.wk {t t' : TE} (h : PE X e t) (w : ∀ σ H Q, t' σ H Q → t σ H Q) : PE X e t' := ⟨fun pins s σ H Q I q => h.run pins s σ H Q I (w σ H Q q)⟩
theorem _root_.L2.PT.wk {t t' : TT} (h : PT X e t) (w : ∀ σ H Q, t' σ H Q → t σ H Q) : PT X e t' := ⟨fun pins s σ H Q I q => h.run pins s σ H Q I (w σ H Q q)⟩
theorem _root_.L2.PW.wk {t t' : TT} (h : PW X e t) (w : ∀ σ H Q, t' σ H Q → t σ H Q) : PW X e t' := ⟨fun wh pins s σ H Q I q => h.run wh pins s σ H Q I (w σ H Q q)⟩
theorem _root_.L2.PA.wk {es : List Expr} {t t' : TA} (h : PA X es t) (w : ∀ σ H Q, t' σ H Q → t σ H Q) : PA X es t' := ⟨fun pos pins s σ H Q I q => h.run pos pins s σ H Q I (w σ H Q q)⟩
theorem _root_.L2.PO.wk {o : Option Expr} {t t' : TO} (h : PO X o t) (w : ∀ σ H Q, t' σ H Q → t σ H Q) : PO X o t' := ⟨fun pins s σ H Q I q => h.run pins s σ H Q I (w σ H Q q)⟩
theorem _root_.L2.PI.wk {tg : Expr} {t t' : TI} (h : PI X tg e t) (w : ∀ σ H Q, t' σ H Q → t σ H Q) : PI X tg e t' := ⟨fun pins s σ H Q I q => h.run pins s σ H Q I (w σ H Q q)⟩
theorem _root_.L2.PTs.wk {es : List Expr} {t t' : TT} (h : PTs X es t) (w : ∀ σ H Q, t' σ H Q → t σ H Q) : PTs X es t' := ⟨fun pins s σ H Q I q => h.run pins s σ H Q I (w σ H Q q)⟩
theorem _root_.L2.PI.or {tg : Expr} {t t' : TI} (h : PI X tg e t) (h' : PI X tg e t') : PI X tg e (fun σ H R => t σ H R ∨ t' σ H R) :=
  ⟨fun pins s σ H Q I q => q.elim (h.run pins s σ H Q I) (h'.run pins s σ H Q I)⟩

/-! ### what stands around -/
/-- the defs keep what callF says, to a depth -/
def CallsOk (P : Program) (w : World) (K : PySem.W.Frag) (mg : Str → Option Value) (base : Heap) (c : Sc) (k : Nat) (F : Calls) : Prop :=
  (∀ (j : Nat) (x : Str) (ws : List Val) (μ : Store) (r : Val) (μ' : Store), c.fns[j]? = some x → j < mB → F j ws μ = some (r, μ') → ∃ f : Addr, mg x = some (.ref f) ∧ PySem.W.keepIn K (.ref f) = true ∧
    ∀ (A : Around) (outer : List Env) (s : Shared) (H : Hp) (us : List Value) (vs : List V) (Q : VK) (Fr : Hp) (M : Nat → Addr) (G : Hp), Room k A → A.guards = some [] → Env0 P w K mg base A outer s H → Vals vs us →
      SS K Fr M G H μ → RVs K M G vs ws → (∀ v H' G', Le G G' → SS K Fr M G' H' μ' → μ'.length = μ.length → RV K M G' v r → Q v H') →
      codeAny (model P w) A (.call (.ref f) ⟨us, []⟩) (CR CX0 outer P w H s Q E0) s) ∧
  (∀ (j : Nat) (x : Str) (ws : List Val) (μ : Store) (ds : List D) (μ' : Store), c.fns[j]? = some x → F (mB + j) ws μ = some (.d (.list ds), μ') → ∃ f : Addr, mg x = some (.ref f) ∧ PySem.W.keepIn K (.ref f) = true ∧
    ∀ (A : Around) (outer : List Env) (s : Shared) (H : Hp) (us : List Value) (vs : List V) (Q : VK) (Fr : Hp) (M : Nat → Addr) (G : Hp), Room k A → A.guards = some [] → Env0 P w K mg base A outer s H → Vals vs us →
      SS K Fr M G H μ → RVs K M G vs ws → (∀ p zs H' G', Le G G' → SS K Fr M G' H' μ' → μ'.length = μ.length → H' p = some (.lst zs) → G' p = none → Fr p = none → (∀ (i : Nat) (es : List D), μ'[i]? = some (some es) → M i ≠ p) → RpA K G' zs ds → ds.length ≤ sizeLine → Q (.ref p) H') →
      codeAny (model P w) A (.call (.ref f) ⟨us, []⟩) (CR CX0 outer P w H s Q E0) s)
structure Good (X : Cx) (c : Sc) (C : Cons) (k : Nat) (F : Calls) : Prop where
  N : X.N = c.N
  nd : X.N.Nodup
  calm : X.calm = true
  room : Room k X.A
  grd : X.A.guards = some []
  blt : ∀ x ∈ bltNames, X.mg (x : Str) = none
  con : ∀ (n : Nat) (x : Str) (d : D), c.cons[n]? = some x → C n = some d → ∃ u v, X.mg x = some u ∧ RelV v u ∧ Rp X.K (fun _ => none) v d
  calls : CallsOk X.prog X.w X.K X.mg X.base c k F
theorem Good.hu {c : Sc} {C : Cons} {k : Nat} {F : Calls} (g : Good X c C k F) : X.A.units + 65 < cLine := by
  have := g.room.un
  omega
theorem Good.blk {c : Sc} {C : Cons} {k : Nat} {F : Calls} (g : Good X c C k F) (s : Shared) (H : Hp) (scope : Scope) (env : Env) (fp : List Addr) : Good (X.blk s H scope env fp) c C k F :=
  ⟨g.N, g.nd, g.calm, g.room, g.grd, g.blt, g.con, g.calls⟩
theorem blt_of {c : Sc} {C : Cons} {k : Nat} {F : Calls} (g : Good X c C k F) (x : String) (h : bltNames.contains x = true) : X.mg (x : Str) = none :=
  g.blt x (by simpa using h)

/-! ### built-ins by data -/
theorem intsD_map : ∀ {xs : List D} {ns : List Int}, intsD xs = some ns → xs = ns.map PyData.int
  | [], ns, h => by simp [intsD] at h; subst h; rfl
  | x :: xs, ns, h => by
    cases x with
    | int i =>
      simp only [intsD, Option.map_eq_some_iff] at h
      obtain ⟨ms, h1, rfl⟩ := h
      rw [intsD_map h1]; rfl
    | _ => simp [intsD] at h
theorem max_fold {n m : Int} {ns : List Int} (h1 : m ∈ n :: ns) (h2 : ∀ y ∈ n :: ns, y ≤ m) : ns.foldl max n = m := by
  have up : ∀ (ns : List Int) (n : Int), (∀ y ∈ n :: ns, y ≤ ns.foldl max n) ∧ ns.foldl max n ∈ n :: ns := by
    intro ns
    induction ns with
    | nil => intro n; simp
    | cons k ns ih =>
      intro n
      obtain ⟨a, b⟩ := ih (max n k)
      rw [List.foldl_cons]
      refine ⟨fun y hy => ?_, ?_⟩
      · have z := a (max n k) List.mem_cons_self
        rcases List.mem_cons.mp hy with rfl | hy
        · omega
        · rcases List.mem_cons.mp hy with rfl | hy
          · omega
          · exact a y (List.mem_cons_of_mem _ hy)
      · rcases List.mem_cons.mp b with e | b
        · rw [e]
          by_cases q : n ≤ k
          · rw [Int.max_eq_right q]; exact List.mem_cons_of_mem _ List.mem_cons_self
          · rw [Int.max_eq_left (by omega)]; exact List.mem_cons_self
        · exact List.mem_cons_of_mem _ (List.mem_cons_of_mem _ b)
  obtain ⟨a, b⟩ := up ns n
  have c1 := a m h1
  have c2 := h2 _ b
  omega
theorem min_fold {n m : Int} {ns : List Int} (h1 : m ∈ n :: ns) (h2 : ∀ y ∈ n :: ns, m ≤ y) : ns.foldl min n = m := by
  have up : ∀ (ns : List Int) (n : Int), (∀ y ∈ n :: ns, ns.foldl min n ≤ y) ∧ ns.foldl min n ∈ n :: ns := by
    intro ns
    induction ns with
    | nil => intro n; simp
    | cons k ns ih =>
      intro n
      obtain ⟨a, b⟩ := ih (min n k)
      rw [List.foldl_cons]
      refine ⟨fun y hy => ?_, ?_⟩
      · have z := a (min n k) List.mem_cons_self
        rcases List.mem_cons.mp hy with rfl | hy
        · omega
        · rcases List.mem_cons.mp hy with rfl | hy
          · omega
          · exact a y (List.mem_cons_of_mem _ hy)
      · rcases List.mem_cons.mp b with e | b
        · rw [e]
          by_cases q : n ≤ k
          · rw [Int.min_eq_left q]; exact List.mem_cons_self
          · rw [Int.min_eq_right (by omega)]; exact List.mem_cons_of_mem _ List.mem_cons_self
        · exact List.mem_cons_of_mem _ (List.mem_cons_of_mem _ b)
  obtain ⟨a, b⟩ := up ns n
  have c1 := a m h1
  have c2 := h2 _ b
  omega
theorem reads_int {h : Heap} {v : Value} {i : Int} {as : List Addr} (r : Reads h v (.int i) as) : ∃ t, v = .int i t := by
  cases r
  exact ⟨_, rfl⟩
theorem readsAll_ints {h : Heap} : ∀ {ns : List Int} {us : List Value}, Vals (ns.map V.int) us → ∃ as, ReadsAll h us (ns.map PyData.int) as
  | [], _, r => by cases r; exact ⟨_, .nil⟩
  | n :: ns, _, r => by
    cases r with
    | cons r t =>
      obtain ⟨tk, rfl⟩ := r
      obtain ⟨as, q⟩ := readsAll_ints t
      exact ⟨_, .cons (.int n tk) q⟩
theorem alike_ints (ns : List Int) : PySem.W.AlikeAll (ns.map PyData.int) := by
  refine ⟨fun x hx y hy => ?_, fun x hx => ?_⟩
  · obtain ⟨a, _, rfl⟩ := List.mem_map.mp hx
    obtain ⟨b, _, rfl⟩ := List.mem_map.mp hy
    rfl
  · obtain ⟨a, _, rfl⟩ := List.mem_map.mp hx
    exact fun q => nomatch q
theorem depth_ints : ∀ ns : List Int, PyData.depthAll (ns.map PyData.int) ≤ 1
  | [] => by simp [PyData.depthAll]
  | n :: ns => by
    have := depth_ints ns
    simp only [List.map_cons, PyData.depthAll, PyData.depth]
    omega
theorem canLay_hasDict : ∀ d : D, d.canLay0 = true → d.hasDict = false := fun d h => by
  cases q : d.hasDict with
  | false => rfl
  | true =>
    have := PyData.hasDictAll_of_canLayAll [d] (by simpa [PyData.canLayAll0] using h)
    simp [PyData.hasDictAll, q] at this
theorem call_bi {c : Sc} {C : Cons} {k : Nat} {F : Calls} (g : Good X c C k F) (b : BI) : CallR X b.fv (fun vs H Q => ∃ x, vs = [x] ∧ rd1R X.K (biD b) x H Q) := by
  intro pins s σ H vs us Q I r h
  obtain ⟨x, rfl, Fr, M, G, μ, w1, d1, z, ss, r1, e1, e3, q⟩ := h
  have p1 := ss.rd r1 e1
  have fin : ∀ v, Rp X.K G v z → Q v H := fun v p => q v H G (Le.rfl' _) ss p
  cases b with
  | len =>
    cases d1 with
    | list xs =>
      simp only [biD, Option.some.injEq] at e3
      subst e3
      obtain ⟨a, ws, rfl, h1, q1, z1⟩ := ss.rdL r1 e1
      exact call_len_seq pins s σ H _ us Q I r ⟨a, ws, rfl, .inl h1.sql, fin _ (by rw [q1.length]; exact .int _)⟩
    | tuple xs =>
      simp only [biD, Option.some.injEq] at e3
      subst e3
      obtain ⟨a, ws, rfl, h1, q1, z1⟩ := ss.rdT r1 e1
      exact call_len_seq pins s σ H _ us Q I r ⟨a, ws, rfl, .inr h1, fin _ (by rw [q1.length]; exact .int _)⟩
    | str y =>
      simp only [biD] at e3
      split at e3
      · rename_i hz
        cases e3
        cases p1
        exact call_len_str pins s σ H _ us Q I r ⟨y, rfl, hz, fin _ (.int _)⟩
      · cases e3
    | _ => simp [biD] at e3
  | tup =>
    cases d1 with
    | list xs =>
      simp only [biD, Option.some.injEq] at e3
      subst e3
      obtain ⟨a, ws, rfl, h1, q1, z1⟩ := ss.rdL r1 e1
      refine call_tuple_of pins s σ H _ us Q I r ⟨a, ws, rfl, .inl ⟨h1.sql, fun p hp => ?_⟩⟩
      obtain ⟨G', le, s', r'⟩ := ss.tup hp q1 z1
      exact q _ _ G' le s' r'
    | tuple xs =>
      simp only [biD, Option.some.injEq] at e3
      subst e3
      obtain ⟨a, ws, rfl, h1, q1, z1⟩ := ss.rdT r1 e1
      refine call_tuple_of pins s σ H _ us Q I r ⟨a, ws, rfl, .inr ⟨h1, ?_⟩⟩
      cases w1 with
      | d x2 =>
        simp only [deref, Option.some.injEq] at e1
        subst e1
        cases r1 with
        | d r1 => exact fin _ r1
      | p i => unfold deref at e1; simp only at e1; split at e1 <;> cases e1
    | _ => simp [biD] at e3
  | lst =>
    cases d1 with
    | list xs =>
      simp only [biD, Option.some.injEq] at e3
      subst e3
      obtain ⟨a, ws, rfl, h1, q1, z1⟩ := ss.rdL r1 e1
      refine call_list_of pins s σ H _ us Q I r ⟨a, ws, rfl, .inl h1.sql, fun p hp => ?_⟩
      obtain ⟨G', le, s', r'⟩ := ss.lst hp q1 z1
      exact q _ _ G' le s' r'
    | tuple xs =>
      simp only [biD, Option.some.injEq] at e3
      subst e3
      obtain ⟨a, ws, rfl, h1, q1, z1⟩ := ss.rdT r1 e1
      refine call_list_of pins s σ H _ us Q I r ⟨a, ws, rfl, .inr h1, fun p hp => ?_⟩
      obtain ⟨G', le, s', r'⟩ := ss.lst hp q1 z1
      exact q _ _ G' le s' r'
    | _ => simp [biD] at e3
  | int =>
    cases d1 with
    | int i =>
      simp only [biD, Option.some.injEq] at e3
      subst e3
      cases p1
      exact call_int1 pins s σ H _ us Q I r (.inl ⟨i, rfl, fin _ (.int _)⟩)
    | bool i =>
      simp only [biD, Option.some.injEq] at e3
      subst e3
      cases p1
      exact call_int1 pins s σ H _ us Q I r (.inr ⟨i, rfl, fin _ (.int _)⟩)
    | _ => simp [biD] at e3
  | bool =>
    cases d1 with
    | int i =>
      simp only [biD, Option.some.injEq] at e3
      subst e3
      cases p1
      exact call_bool1 pins s σ H _ us Q I r (.inl ⟨i, rfl, fin _ (.bl _)⟩)
    | bool i =>
      simp only [biD, Option.some.injEq] at e3
      subst e3
      cases p1
      exact call_bool1 pins s σ H _ us Q I r (.inr ⟨i, rfl, fin _ (.bl _)⟩)
    | _ => simp [biD] at e3
  | all =>
    cases d1 with
    | list xs =>
      simp only [biD, Option.map_eq_some_iff] at e3
      obtain ⟨bs, e4, rfl⟩ := e3
      obtain ⟨a, ws, rfl, h1, q1, z1⟩ := ss.rdL r1 e1
      have e5 := q1.bools e4
      subst e5
      exact cr_all g.calm pins s σ H _ us Q I r ⟨a, bs, rfl, h1.sql, fin _ (.bl _)⟩
    | _ => simp [biD] at e3
  | any =>
    cases d1 with
    | list xs =>
      simp only [biD, Option.map_eq_some_iff] at e3
      obtain ⟨bs, e4, rfl⟩ := e3
      obtain ⟨a, ws, rfl, h1, q1, z1⟩ := ss.rdL r1 e1
      have e5 := q1.bools e4
      subst e5
      exact cr_any g.calm pins s σ H _ us Q I r ⟨a, bs, rfl, h1.sql, fin _ (.bl _)⟩
    | _ => simp [biD] at e3
  | sum =>
    cases d1 with
    | list xs =>
      simp only [biD, Option.map_eq_some_iff] at e3
      obtain ⟨ns, e4, rfl⟩ := e3
      obtain ⟨a, ws, rfl, h1, q1, z1⟩ := ss.rdL r1 e1
      have e5 := q1.ints (intsD_map e4)
      subst e5
      exact cr_sum g.calm pins s σ H _ us Q I r ⟨a, ns, rfl, h1.sql, fin _ (.int _)⟩
    | _ => simp [biD] at e3
  | max =>
    cases d1 with
    | list xs =>
      simp only [biD] at e3
      split at e3
      · rename_i n ns e4
        cases e3
        obtain ⟨a, ws, rfl, h1, q1, z1⟩ := ss.rdL r1 e1
        have e5 := q1.ints (intsD_map e4)
        subst e5
        refine cr_max g.calm pins s σ H _ us Q I r ⟨a, n :: ns, rfl, h1.sql, by simp, fun m m1 m2 => fin _ ?_⟩
        rw [max_fold m1 m2]
        exact .int _
      · cases e3
    | tuple xs =>
      simp only [biD] at e3
      split at e3
      · rename_i n ns e4
        cases e3
        obtain ⟨a, ws, rfl, h1, q1, z1⟩ := ss.rdT r1 e1
        have e5 := q1.ints (intsD_map e4)
        subst e5
        obtain ⟨its, rv, pl, _⟩ := I.tuple h1
        rw [Vals.ref1 r]
        obtain ⟨as, ra⟩ := readsAll_ints (h := s.heap) rv
        have hu := g.room.un
        have dp := depth_ints (n :: ns)
        refine PySem.W.max_tuple_data (x := .int n) (xs := ns.map .int) (as := as) (I.ok.hd g.calm) pl (by simpa using ra) (alike_ints (n :: ns)) (by rw [show PyData.int n :: ns.map PyData.int = (n :: ns).map PyData.int from rfl]; omega) fun i v h' tk bs _ rd hk => ?_
        rw [PySem.W.maxD_ints] at rd
        obtain ⟨t, rfl⟩ := reads_int rd
        exact ⟨.int _, H, I.kept hk, ⟨_, rfl⟩, fin _ (.int _)⟩
      · cases e3
    | _ => simp [biD] at e3
  | min =>
    cases d1 with
    | list xs =>
      simp only [biD] at e3
      split at e3
      · rename_i n ns e4
        cases e3
        obtain ⟨a, ws, rfl, h1, q1, z1⟩ := ss.rdL r1 e1
        have e5 := q1.ints (intsD_map e4)
        subst e5
        refine cr_min g.calm pins s σ H _ us Q I r ⟨a, n :: ns, rfl, h1.sql, by simp, fun m m1 m2 => fin _ ?_⟩
        rw [min_fold m1 m2]
        exact .int _
      · cases e3
    | tuple xs =>
      simp only [biD] at e3
      split at e3
      · rename_i n ns e4
        cases e3
        obtain ⟨a, ws, rfl, h1, q1, z1⟩ := ss.rdT r1 e1
        have e5 := q1.ints (intsD_map e4)
        subst e5
        obtain ⟨its, rv, pl, _⟩ := I.tuple h1
        rw [Vals.ref1 r]
        obtain ⟨as, ra⟩ := readsAll_ints (h := s.heap) rv
        have hu := g.room.un
        have dp := depth_ints (n :: ns)
        refine PySem.W.min_tuple_data (x := .int n) (xs := ns.map .int) (as := as) (I.ok.hd g.calm) pl (by simpa using ra) (alike_ints (n :: ns)) (by rw [show PyData.int n :: ns.map PyData.int = (n :: ns).map PyData.int from rfl]; omega) fun i v h' tk bs _ rd hk => ?_
        rw [PySem.W.minD_ints] at rd
        obtain ⟨t, rfl⟩ := reads_int rd
        exact ⟨.int _, H, I.kept hk, ⟨_, rfl⟩, fin _ (.int _)⟩
      · cases e3
    | _ => simp [biD] at e3
  | repr =>
    cases d1 with
    | tuple xs =>
      simp only [biD] at e3
      split at e3
      · rename_i hs
        cases e3
        obtain ⟨hs1, hs2, hs3⟩ := hs
        obtain ⟨a, ws, rfl, h1, q1, z1⟩ := ss.rdT r1 e1
        rw [Vals.ref1 r]
        obtain ⟨as, ra⟩ := Dp.reads I _ _ _ (shp_dp hs2 p1) rfl
        have hu := g.room.un
        have dp := SeqAt.depth_of_shaped hs2
        refine repr_of_reads' ra hs1 (fun hd => ?_) g.grd (by omega) (fun _ _ e => e) (fun h' u tk hk => ?_) hs3
        · rw [canLay_hasDict _ (SeqAt.canLay_of_shaped hs2)] at hd; cases hd
        · exact ⟨.str _, H, I.kept hk, ⟨_, rfl⟩, fin _ (.str _)⟩
      · cases e3
    | _ => simp [biD] at e3
end Mu

namespace Mu
open PySem PySem.Spec
open PyProof.Rows L2
variable {X : Cx} {c : Sc} {C : Cons} {k : Nat} {F : Calls}

theorem bnd {α β : Type} {x : Option α} {f : α → Option β} {b : β} (h : x.bind f = some b) : ∃ a, x = some a ∧ f a = some b := Option.bind_eq_some_iff.mp h
theorem SS.frzV {K : PySem.W.Frag} {Fr : Hp} {M : Nat → Addr} {G H : Hp} {μ μ1 : Store} {v : V} {w : Val} {x : D} (s : SS K Fr M G H μ) (r : RV K M G v w) (e : Mu.frzV μ w = some (x, μ1)) :
    ∃ G', Le G G' ∧ SS K Fr M G' H μ1 ∧ Rp K G' v x ∧ μ1.length = μ.length := by
  cases r with
  | d h => simp only [Mu.frzV, Option.some.injEq, Prod.mk.injEq] at e; obtain ⟨rfl, rfl⟩ := e; exact ⟨G, Le.rfl' _, s, h, rfl⟩
  | p i =>
    simp only [Mu.frzV] at e
    split at e
    · rename_i xs hx
      simp only [Option.some.injEq, Prod.mk.injEq] at e
      obtain ⟨rfl, rfl⟩ := e
      obtain ⟨G', a, b, d⟩ := s.frz hx
      exact ⟨G', a, b, d, by simp⟩
    · cases e
theorem tv_go {K : PySem.W.Frag} {f : Rho → Store → Option (Val × Store)} {σ : L2.St} {H : Hp} {P : V → Hp → Prop} {Fr : Hp} {M : Nat → Addr} {G : Hp} {ρ : Rho} {μ : Store} {r : Val} {μ' : Store} (s : SS K Fr M G H μ) (rr : RR K M G ρ σ) (e : f ρ μ = some (r, μ'))
    (q : ∀ v H' G', Le G G' → SS K Fr M G' H' μ' → μ'.length = μ.length → RV K M G' v r → P v H') : tv K f σ H P := ⟨Fr, M, G, ρ, μ, r, μ', s, rr, e, q⟩
theorem tvT_go {K : PySem.W.Frag} {f : Rho → Store → Option (Bool × Store)} {σ : L2.St} {H : Hp} {P : Bool → Hp → Prop} {Fr : Hp} {M : Nat → Addr} {G : Hp} {ρ : Rho} {μ : Store} {r : Bool} {μ' : Store} (s : SS K Fr M G H μ) (rr : RR K M G ρ σ) (e : f ρ μ = some (r, μ'))
    (q : ∀ H' G', Le G G' → SS K Fr M G' H' μ' → μ'.length = μ.length → P r H') : tvT K f σ H P := ⟨Fr, M, G, ρ, μ, r, μ', s, rr, e, q⟩
theorem rd1_some {μ μ' : Store} {v r : Val} {f : D → Option D} (h : rd1 μ v f = some (r, μ')) : ∃ x z, deref μ v = some x ∧ f x = some z ∧ r = .d z ∧ μ' = μ := by
  obtain ⟨x, h1, h2⟩ := bnd h
  obtain ⟨z, h3, h4⟩ := Option.map_eq_some_iff.mp h2
  cases h4
  exact ⟨x, z, h1, h3, rfl, rfl⟩
theorem rd2_some {μ μ' : Store} {v w r : Val} {f : D → D → Option D} (h : rd2 μ v w f = some (r, μ')) : ∃ x y z, deref μ v = some x ∧ deref μ w = some y ∧ f x y = some z ∧ r = .d z ∧ μ' = μ := by
  obtain ⟨x, h1, h2⟩ := bnd h
  obtain ⟨y, h3, h4⟩ := bnd h2
  obtain ⟨z, h5, h6⟩ := Option.map_eq_some_iff.mp h4
  cases h6
  exact ⟨x, y, z, h1, h3, h5, rfl, rfl⟩
/-- two values, then an operation on data -/
theorem tv_bin {K : PySem.W.Frag} {fa fb : Rho → Store → Option (Val × Store)} {f : D → D → Option D} {σ : L2.St} {H : Hp} {Q : V → Hp → Prop}
    (h : tv K (fun ρ μ => (fa ρ μ).bind fun (v, μ1) => (fb ρ μ1).bind fun (w, μ2) => rd2 μ2 v w f) σ H Q) : tOp (rd2R K f) (tv K fa) (tv K fb) σ H Q := by
  obtain ⟨Fr, M, G, ρ, μ, r, μ', s, rr, e, q⟩ := h
  obtain ⟨⟨v1, μ1⟩, e1, e⟩ := bnd e
  obtain ⟨⟨v2, μ2⟩, e2, e⟩ := bnd e
  obtain ⟨d1, d2, z, g1, g2, g3, rfl, rfl⟩ := rd2_some e
  refine tv_go s rr e1 fun x H1 G1 l1 s1 n1 r1 => tv_go s1 (rr.mono l1) e2 fun y H2 G2 l2 s2 n2 r2 => ?_
  exact ⟨Fr, M, G2, _, v1, v2, d1, d2, z, s2, r1.mono l2, r2, g1, g2, g3, fun v H3 G3 l3 s3 r3 => q v H3 G3 (l1.trans (l2.trans l3)) s3 (n2.trans n1) (.d r3)⟩
theorem Good.gl (g : Good X c C k F) {x : Str} (h : glB X.env.scope x = true) : Gl X x ∧ (x == ("__debug__" : Str)) = false := by
  simp only [glB, Bool.and_eq_true, decide_eq_true_eq, Bool.not_eq_true'] at h
  exact ⟨h.1, h.2⟩
theorem star_of {e : Expr} {es : List Expr} {env : Env} (h : plainX e = true) : starEach (e :: es) env = (false, eval e env) :: starEach es env := by
  cases e <;> first | rfl | cases h
theorem star_any {env : Env} {pos : Pos} : ∀ {es : List Expr}, (∀ e ∈ es, plainX e = true) → (backTo pos (starEach es env)).any (·.1) = false
  | [], _ => rfl
  | e :: es, h => by
    rw [star_of (h e List.mem_cons_self)]
    have ih := star_any (env := env) (pos := pos) (es := es) fun x hx => h x (List.mem_cons_of_mem _ hx)
    show (false || (backTo pos (starEach es env)).any (·.1)) = false
    rw [ih]; rfl
theorem folded_of {e : Expr} {env : Env} {x : Value} (h : plainX e = true) : foldedSetIterable e env x = pure x := by
  cases e <;> first | rfl | cases h
theorem mark_of {e : Expr} {o : CmpOp} (h : plainX e = true) : behindInMarks o e = false := by
  cases e <;> first | rfl | cases h
theorem plainIx_of {e : Expr} (h : plainX e = true) : PlainIx e := by
  intro o i
  cases e <;> first | rfl | cases h
theorem truth_of {a : Expr} (h : plainT a = true) {env : Env} (whole : Sem Value) : isTrue a env whole = (do let v ← whole; standAt a.pos; holding [v] (truthy v)) := by
  cases a <;> first | rfl | cases h
/-- a value's truth as a test -/
theorem pt_tv {e : Expr} {f : Rho → Store → Option (Val × Store)} (h : PE X e (tv X.K f)) (ht : plainT e = true) : PT X e (tvT X.K fun ρ μ => toT (f ρ μ)) := by
  refine (pt_truth h fun whole => truth_of ht whole).wk fun σ H Q q => ?_
  obtain ⟨Fr, M, G, ρ, μ, r, μ', s, rr, e, q⟩ := q
  obtain ⟨⟨v, μ1⟩, e1, e⟩ := bnd e
  obtain ⟨x, e2, e⟩ := bnd e
  obtain ⟨b, e3, e⟩ := Option.map_eq_some_iff.mp e
  cases e
  exact tv_go s rr e1 fun x H1 G1 l1 s1 n1 r1 => ⟨_, truV_of s1 r1 e2 e3, q H1 G1 l1 s1 n1⟩

/-! ### names, constants -/
theorem snd_var (g : Good X c C k F) {i : Nat} {x : Str} {pos : Pos} (h : visB X.env.scope x = true) (hN : c.N[i]? = some x) : PE X (.Name x pos) (tv X.K (evE C F (.var i))) := by
  simp only [visB, Bool.and_eq_true, Bool.or_eq_true, decide_eq_true_eq, Bool.not_eq_true'] at h
  obtain ⟨⟨hv, hd⟩, hc⟩ := h
  have hv' : Vis X.env.scope x := by
    rcases hv with (hv | hv) | hv
    · exact .inl hv
    · exact .inr (.inl hv)
    · exact .inr (.inr hv)
  refine (pe_var (i := i) (by rw [g.N]; exact hN) hv' hd hc).wk fun σ H Q q => ?_
  obtain ⟨Fr, M, G, ρ, μ, r, μ', s, rr, e, q⟩ := q
  simp only [evE] at e
  split at e
  · rename_i v hv
    cases e
    obtain ⟨y, h1, h2⟩ := rr.at_ i _ hv
    exact ⟨y, h1, q y H G (Le.rfl' _) s rfl h2⟩
  · cases e
theorem tv_c {K : PySem.W.Frag} {f : Rho → Store → Option (Val × Store)} {v : V} {d : D} (hf : ∀ ρ μ, f ρ μ = some (.d d, μ)) (hr : ∀ G, Rp K G v d) : ∀ σ H Q, tv K f σ H Q → tC v σ H Q := fun σ H Q q => by
  obtain ⟨Fr, M, G, ρ, μ, r, μ', s, rr, e, q⟩ := q
  rw [hf] at e
  cases e
  exact q v H G (Le.rfl' _) s rfl (.d (hr G))
theorem snd_con (g : Good X c C k F) {n : Nat} {x : String} {y : Str} {pos : Pos} (h : glB X.env.scope y = true) (hN : c.cons[n]? = some y) : PE X (.Name y pos) (tv X.K (evE C F (.con x n))) := by
  obtain ⟨h1, h2⟩ := g.gl h
  refine ⟨fun pins s σ H Q I q => ?_⟩
  obtain ⟨Fr, M, G, ρ, μ, r, μ', ss, rr, e, q⟩ := q
  simp only [evE, Option.map_eq_some_iff] at e
  obtain ⟨d, e1, e2⟩ := e
  cases e2
  obtain ⟨u, v, a1, a2, a3⟩ := g.con n y d hN e1
  exact (pe_glob h1 a1 a2 h2).run pins s σ H Q I (q v H G (Le.rfl' _) ss rfl (.d (a3.mono fun _ _ z => by cases (show (none : Option HO) = some _ from z))))

/-! ### lists of expressions -/
theorem snd_es_nil : PA X [] (tvA X.K (evEs C F .nil)) := by
  refine PA.wk pa_nil fun σ H Q q => ?_
  obtain ⟨Fr, M, G, ρ, μ, r, μ', s, rr, e, q⟩ := q
  simp only [evEs] at e
  cases e
  exact q [] H G (Le.rfl' _) s rfl .nil
theorem snd_es_cons {e : Expr} {m : E} {ls : List Expr} {es : Es} (h : PE X e (tv X.K (evE C F m))) (hp : plainX e = true) (t : PA X ls (tvA X.K (evEs C F es))) : PA X (e :: ls) (tvA X.K (evEs C F (.cons m es))) := by
  refine (pa_cons h t (star_of hp)).wk fun σ H Q q => ?_
  obtain ⟨Fr, M, G, ρ, μ, r, μ', s, rr, e, q⟩ := q
  simp only [evEs] at e
  obtain ⟨⟨x, μ1⟩, e1, e⟩ := bnd e
  obtain ⟨⟨w, μ0⟩, e0, e1⟩ := bnd e1
  obtain ⟨⟨xs, μ2⟩, e2, e⟩ := bnd e
  cases e
  refine tv_go s rr e0 fun v H1 G1 l1 s1 n1 r1 => ?_
  obtain ⟨G2, l2, s2, r2, n2⟩ := s1.frzV r1 e1
  exact ⟨Fr, M, G2, ρ, μ1, xs, _, s2, rr.mono (l1.trans l2), e2, fun vs H3 G3 l3 s3 n3 r3 => q (v :: vs) H3 G3 (l1.trans (l2.trans l3)) s3 (n3.trans (n2.trans n1)) (.cons (r2.mono l3) r3)⟩
theorem snd_vs_nil : PA X [] (tvV X.K (evVs C F .nil)) := by
  refine PA.wk pa_nil fun σ H Q q => ?_
  obtain ⟨Fr, M, G, ρ, μ, r, μ', s, rr, e, q⟩ := q
  simp only [evVs] at e
  cases e
  exact q [] H G (Le.rfl' _) s rfl .nil
theorem snd_vs_cons {e : Expr} {m : E} {ls : List Expr} {es : Es} (h : PE X e (tv X.K (evE C F m))) (hp : plainX e = true) (t : PA X ls (tvV X.K (evVs C F es))) : PA X (e :: ls) (tvV X.K (evVs C F (.cons m es))) := by
  refine (pa_cons h t (star_of hp)).wk fun σ H Q q => ?_
  obtain ⟨Fr, M, G, ρ, μ, r, μ', s, rr, e, q⟩ := q
  simp only [evVs] at e
  obtain ⟨⟨w, μ1⟩, e1, e⟩ := bnd e
  obtain ⟨⟨xs, μ2⟩, e2, e⟩ := bnd e
  cases e
  refine tv_go s rr e1 fun v H1 G1 l1 s1 n1 r1 => ?_
  exact ⟨Fr, M, G1, ρ, μ1, xs, _, s1, rr.mono l1, e2, fun vs H3 G3 l3 s3 n3 r3 => q (v :: vs) H3 G3 (l1.trans l3) s3 (n3.trans n1) (.cons (r1.mono l3) r3)⟩
theorem evEs_len : ∀ {es : Es} {ρ : Rho} {μ μ' : Store} {xs : List D}, evEs C F es ρ μ = some (xs, μ') → xs.length = es.len
  | .nil, ρ, μ, μ', xs, h => by simp only [evEs] at h; cases h; rfl
  | .cons e es, ρ, μ, μ', xs, h => by
    simp only [evEs] at h
    obtain ⟨⟨x, μ1⟩, e1, h⟩ := bnd h
    obtain ⟨⟨ys, μ2⟩, e2, h⟩ := bnd h
    cases h
    simp only [List.length_cons, Es.len, evEs_len e2]
theorem small_line {n : Nat} (h : n ≤ 1000) : n ≤ sizeLine := Nat.le_trans h (by decide)
theorem snd_tup {ls : List Expr} {es : Es} {x : Nat} {pos : Pos} (h : PA X ls (tvA X.K (evEs C F es))) (hl : es.len ≤ 1000) : PE X (.Tuple ls x pos) (tv X.K (evE C F (.tup es))) := by
  refine (pe_tup h).wk fun σ H Q q => ?_
  obtain ⟨Fr, M, G, ρ, μ, r, μ', s, rr, e, q⟩ := q
  simp only [evE] at e
  obtain ⟨⟨xs, μ1⟩, e1, e⟩ := bnd e
  cases e
  have hz : xs.length ≤ sizeLine := small_line (by rw [evEs_len e1]; exact hl)
  refine ⟨Fr, M, G, ρ, μ, xs, μ1, s, rr, e1, fun vs H1 G1 l1 s1 n1 r1 => ⟨by rw [r1.length]; exact hz, fun p hp => ?_⟩⟩
  obtain ⟨G2, l2, s2, r2⟩ := s1.tup hp r1 hz
  exact q _ _ G2 (l1.trans l2) s2 n1 (.d r2)
theorem snd_lst {ls : List Expr} {es : Es} {pos : Pos} (h : PA X ls (tvA X.K (evEs C F es))) (hl : es.len ≤ 1000) : PE X (.List ls pos) (tv X.K (evE C F (.lst es))) := by
  refine (pe_lst h).wk fun σ H Q q => ?_
  obtain ⟨Fr, M, G, ρ, μ, r, μ', s, rr, e, q⟩ := q
  simp only [evE] at e
  obtain ⟨⟨xs, μ1⟩, e1, e⟩ := bnd e
  cases e
  have hz : xs.length ≤ sizeLine := small_line (by rw [evEs_len e1]; exact hl)
  refine ⟨Fr, M, G, ρ, μ, xs, μ1, s, rr, e1, fun vs H1 G1 l1 s1 n1 r1 => ⟨by rw [r1.length]; exact hz, fun p hp => ?_⟩⟩
  obtain ⟨G2, l2, s2, r2⟩ := s1.lst hp r1 hz
  exact q _ _ G2 (l1.trans l2) s2 n1 (.d r2)
theorem toI_some {r : Option (Val × Store)} {i : Int} {μ : Store} (h : toI r = some (i, μ)) : r = some (.d (.int i), μ) := by
  obtain ⟨⟨v, μ1⟩, e, h2⟩ := bnd h
  rw [e]
  dsimp only at h2
  split at h2
  · cases h2; rfl
  · cases h2
theorem toB_some {r : Option (Val × Store)} {i : Bool} {μ : Store} (h : toB r = some (i, μ)) : r = some (.d (.bool i), μ) := by
  obtain ⟨⟨v, μ1⟩, e, h2⟩ := bnd h
  rw [e]
  dsimp only at h2
  split at h2
  · cases h2; rfl
  · cases h2
theorem toT_of_toB {r : Option (Val × Store)} {i : Bool} {μ : Store} (h : toB r = some (i, μ)) : toT r = some (i, μ) := by
  rw [toB_some h]; rfl
theorem len_rep {α : Type} (xs : List α) : ∀ n : Nat, (List.replicate n xs).flatten.length = xs.length * n
  | 0 => by simp
  | n + 1 => by rw [List.replicate_succ, List.flatten_cons, List.length_append, len_rep xs n, Nat.mul_succ, Nat.add_comm]
theorem snd_rep {ls : List Expr} {es : Es} {p1 pos : Pos} {b : Expr} {m : E} (h : PA X ls (tvA X.K (evEs C F es))) (hl : es.len ≤ 1000) (hb : PE X b (tv X.K (evE C F m))) : PE X (.BinOp (.List ls p1) .Mult b pos) (tv X.K (evE C F (.rep es m))) := by
  refine (pe_op op_rep (pe_lst h) hb).wk fun σ H Q q => ?_
  obtain ⟨Fr, M, G, ρ, μ, r, μ', s, rr, e, q⟩ := q
  simp only [evE] at e
  obtain ⟨⟨xs, μ1⟩, e1, e⟩ := bnd e
  obtain ⟨⟨n, μ2⟩, e2, e⟩ := bnd e
  have e2 := toI_some e2
  split at e
  · rename_i hc
    cases e
    have hz : xs.length ≤ sizeLine := small_line (by rw [evEs_len e1]; exact hl)
    refine ⟨Fr, M, G, ρ, μ, xs, μ1, s, rr, e1, fun vs H1 G1 l1 s1 n1 r1 => ⟨by rw [r1.length]; exact hz, fun p hp => ?_⟩⟩
    obtain ⟨s2, l2⟩ := s1.new (o := .lst vs) hp
    refine tv_go s2 (rr.mono (l1.trans l2)) e2 fun y H3 G3 l3 s3 n3 r3 => ?_
    cases r3 with
    | d r3 =>
      cases r3
      refine ⟨p, n, vs, rfl, rfl, s3.sub p _ (l3 p _ upd_same), hc.1, hc.2.1, by rw [r1.length]; exact hc.2.2, fun p2 hp2 => ?_⟩
      obtain ⟨G4, l4, s4, r4⟩ := s3.lst hp2 ((r1.mono (l2.trans l3)).rep n.toNat) (by rw [len_rep]; exact hc.2.2)
      exact q _ _ G4 (l1.trans (l2.trans (l3.trans l4))) s4 (n3.trans n1) (.d r4)
  · cases e
theorem snd_dct0 {pos : Pos} {n : Nat} : PE X (.Dict [] [] pos) (tv X.K (evE C F (.dct n))) := by
  refine PE.wk pe_dnewK fun σ H Q q => ?_
  obtain ⟨Fr, M, G, ρ, μ, r, μ', s, rr, e, q⟩ := q
  simp only [evE] at e
  cases e
  intro p hp
  obtain ⟨s2, l2⟩ := s.new (o := .dK []) hp
  exact q _ _ _ l2 s2 rfl (.d (.dct upd_same))
theorem snd_dct1 {pos p1 p2 : Pos} {j j' : Nat} {x : Str} {i : Int} {n : Nat} : PE X (.Dict [some (.Constant (.str x) j p1)] [.Constant (.int i) j' p2] pos) (tv X.K (evE C F (.dct n))) := by
  refine (pe_disp (X := X) (pos := pos) (pps_cons (pe_str (x := x) (j := j) (pos := p1)) (pe_int (i := i) (j := j') (pos := p2)) pps_nil) (by rfl) (by rfl) (fun z => by cases z) (by show 1 ≤ 15; decide)).wk fun σ H Q q => ?_
  obtain ⟨Fr, M, G, ρ, μ, r, μ', s, rr, e, q⟩ := q
  simp only [evE] at e
  cases e
  intro p hp
  refine ⟨upd_same, [(.inr x, .int i)], rfl, by show 1 ≤ 15; decide, ?_⟩
  obtain ⟨s2, l2⟩ := s.new (o := .dK (mergeK [] [(Sum.inr x, V.int i)])) hp
  rw [upd_upd]
  exact q _ _ _ l2 s2 rfl (.d (.dct upd_same))
end Mu

namespace Mu
open PySem PySem.Spec
open PyProof.Rows L2
variable {X : Cx} {c : Sc} {C : Cons} {k : Nat} {F : Calls}

/-! ### operations -/
theorem snd_bop {a b : Expr} {ma mb : E} {o : BOp} {pos : Pos} (ha : PE X a (tv X.K (evE C F ma))) (hb : PE X b (tv X.K (evE C F mb))) : PE X (.BinOp a o.op b pos) (tv X.K (evE C F (.bop o ma mb))) := by
  refine (pe_op (op_bop o) ha hb).wk fun σ H Q q => tv_bin ?_
  obtain ⟨Fr, M, G, ρ, μ, r, μ', s, rr, e, q⟩ := q
  exact ⟨Fr, M, G, ρ, μ, r, μ', s, rr, by simpa only [evE] using e, q⟩
theorem snd_cmp (g : Good X c C k F) {a b : Expr} {ma mb : E} {o : COp} {pos : Pos} (ha : PE X a (tv X.K (evE C F ma))) (hb : PE X b (tv X.K (evE C F mb))) (pb : plainX b = true) : PE X (.Compare a [o.op] [b] pos) (tv X.K (evE C F (.cmp o ma mb))) := by
  refine (pe_cmpR (op_cmp g.hu o) ha hb (mark_of pb)).wk fun σ H Q q => tv_bin ?_
  obtain ⟨Fr, M, G, ρ, μ, r, μ', s, rr, e, q⟩ := q
  exact ⟨Fr, M, G, ρ, μ, r, μ', s, rr, by simpa only [evE] using e, q⟩
/-- a comparison's answer is True or False -/
theorem cmpD_bool {o : COp} {x y z : D} (h : cmpD o x y = some z) : ∃ b, z = .bool b := by
  cases o <;> cases x <;> cases y <;> simp only [cmpD] at h <;> first
    | (obtain ⟨b, _, rfl⟩ := Option.map_eq_some_iff.mp h; exact ⟨_, rfl⟩)
    | (cases h; exact ⟨_, rfl⟩)
    | (split at h <;> first | (cases h; exact ⟨_, rfl⟩) | cases h)
    | cases h
theorem tst_cmp (g : Good X c C k F) {a b : Expr} {ma mb : E} {o : COp} {pos : Pos} (ha : PE X a (tv X.K (evE C F ma))) (hb : PE X b (tv X.K (evE C F mb))) (pb : plainX b = true) : PT X (.Compare a [o.op] [b] pos) (tvT X.K fun ρ μ => toT (evE C F (.cmp o ma mb) ρ μ)) := by
  refine (pt_cmpR (op_cmp g.hu o) ha hb (mark_of pb)).wk fun σ H Q q => tv_bin ?_
  obtain ⟨Fr, M, G, ρ, μ, r, μ', s, rr, e, q⟩ := q
  obtain ⟨⟨v, μ1⟩, e1, e⟩ := bnd e
  obtain ⟨x, e2, e⟩ := bnd e
  obtain ⟨b', e3, e⟩ := Option.map_eq_some_iff.mp e
  cases e
  refine ⟨Fr, M, G, ρ, μ, v, _, s, rr, by simpa only [evE] using e1, fun v' H1 G1 l1 s1 n1 r1 => ?_⟩
  simp only [evE] at e1
  obtain ⟨⟨w1, μ2⟩, a1, e1⟩ := bnd e1
  obtain ⟨⟨w2, μ3⟩, a2, e1⟩ := bnd e1
  obtain ⟨d1, d2, z, g1, g2, g3, rfl, rfl⟩ := rd2_some e1
  obtain ⟨b2, rfl⟩ := cmpD_bool g3
  simp only [deref, Option.some.injEq] at e2
  subst e2
  cases e3
  cases r1 with
  | d r1 => cases r1; exact ⟨_, rfl, q H1 G1 l1 s1 n1⟩
theorem chn_go {a b d : Expr} {ma mb md : E} {o p : COp} {σ : L2.St} {H : Hp} {Q : V → Hp → Prop}
    (q : tv X.K (evE C F (.chn o p ma mb md)) σ H Q) : tChain (rd2R X.K (cmpD o)) (rd2R X.K (cmpD p)) (tv X.K (evE C F ma)) (tv X.K (evE C F mb)) (tv X.K (evE C F md)) σ H Q := by
  obtain ⟨Fr, M, G, ρ, μ, r, μ', s, rr, e, q⟩ := q
  simp only [evE] at e
  obtain ⟨⟨v1, μ1⟩, e1, e⟩ := bnd e
  obtain ⟨⟨v2, μ2⟩, e2, e⟩ := bnd e
  obtain ⟨⟨k1, μ3⟩, e3, e⟩ := bnd e
  obtain ⟨d1, d2, z, g1, g2, g3, gz, rfl⟩ := rd2_some (toB_some e3)
  cases gz
  refine tv_go s rr e1 fun x H1 G1 l1 s1 n1 r1 => tv_go s1 (rr.mono l1) e2 fun y H2 G2 l2 s2 n2 r2 => ?_
  refine ⟨Fr, M, G2, _, v1, v2, d1, d2, _, s2, r1.mono l2, r2, g1, g2, g3, fun v H3 G3 l3 s3 r3 => ?_⟩
  cases r3
  refine ⟨k1, rfl, ?_⟩
  cases k1 with
  | true =>
    rw [if_pos rfl] at e ⊢
    obtain ⟨⟨v4, μ4⟩, e4, e⟩ := bnd e
    obtain ⟨d3, d4, z2, g4, g5, g6, rfl, rfl⟩ := rd2_some e
    refine tv_go s3 (rr.mono (l1.trans (l2.trans l3))) e4 fun w H4 G4 l4 s4 n4 r4 => ?_
    exact ⟨Fr, M, G4, _, v2, v4, d3, d4, z2, s4, r2.mono (l3.trans l4), r4, g4, g5, g6, fun u H5 G5 l5 s5 r5 => q u H5 G5 (l1.trans (l2.trans (l3.trans (l4.trans l5)))) s5 (n4.trans (n2.trans n1)) (.d r5)⟩
  | false =>
    rw [if_neg Bool.false_ne_true] at e ⊢
    cases e
    exact q _ H3 G3 (l1.trans (l2.trans l3)) s3 (n2.trans n1) (.d (.bl _))
theorem snd_chn (g : Good X c C k F) {a b d : Expr} {ma mb md : E} {o p : COp} {pos : Pos} (ha : PE X a (tv X.K (evE C F ma))) (hb : PE X b (tv X.K (evE C F mb))) (hd : PE X d (tv X.K (evE C F md))) (pd : plainX d = true) :
    PE X (.Compare a [o.op, p.op] [b, d] pos) (tv X.K (evE C F (.chn o p ma mb md))) :=
  (pe_chain (op_cmp g.hu o) (op_cmp g.hu p) ha hb hd (mark_of (o := p.op) pd)).wk fun σ H Q q => chn_go (a := a) (b := b) (d := d) q
theorem chn_bool {ma mb md : E} {o p : COp} {ρ : Rho} {μ μ' : Store} {v : Val} (e : evE C F (.chn o p ma mb md) ρ μ = some (v, μ')) : ∃ b, v = .d (.bool b) := by
  simp only [evE] at e
  obtain ⟨⟨v1, μ1⟩, e1, e⟩ := bnd e
  obtain ⟨⟨v2, μ2⟩, e2, e⟩ := bnd e
  obtain ⟨⟨k1, μ3⟩, e3, e⟩ := bnd e
  cases k1 with
  | true =>
    rw [if_pos rfl] at e
    obtain ⟨⟨v4, μ4⟩, e4, e⟩ := bnd e
    obtain ⟨d3, d4, z2, g4, g5, g6, rfl, rfl⟩ := rd2_some e
    obtain ⟨b, rfl⟩ := cmpD_bool g6
    exact ⟨b, rfl⟩
  | false =>
    rw [if_neg Bool.false_ne_true] at e
    cases e
    exact ⟨_, rfl⟩
/-- a reading whose value is True or False, as a test -/
theorem tv_test {f : Rho → Store → Option (Val × Store)} (hb : ∀ ρ μ v μ', f ρ μ = some (v, μ') → ∃ b, v = .d (.bool b)) {K : PySem.W.Frag} {σ : L2.St} {H : Hp} {Q : Bool → Hp → Prop} (q : tvT K (fun ρ μ => toT (f ρ μ)) σ H Q) :
    tv K f σ H fun x H' => ∃ k, x = .bl k ∧ Q k H' := by
  obtain ⟨Fr, M, G, ρ, μ, r, μ', s, rr, e, q⟩ := q
  obtain ⟨⟨v, μ1⟩, e1, e⟩ := bnd e
  obtain ⟨x, e2, e⟩ := bnd e
  obtain ⟨b', e3, e⟩ := Option.map_eq_some_iff.mp e
  cases e
  obtain ⟨b, rfl⟩ := hb _ _ _ _ e1
  simp only [deref, Option.some.injEq] at e2
  subst e2
  cases e3
  refine tv_go s rr e1 fun v' H1 G1 l1 s1 n1 r1 => ?_
  cases r1 with
  | d r1 => cases r1; exact ⟨_, rfl, q H1 G1 l1 s1 n1⟩
theorem tst_chn (g : Good X c C k F) {a b d : Expr} {ma mb md : E} {o p : COp} {pos : Pos} (ha : PE X a (tv X.K (evE C F ma))) (hb : PE X b (tv X.K (evE C F mb))) (hd : PE X d (tv X.K (evE C F md))) (pd : plainX d = true) :
    PT X (.Compare a [o.op, p.op] [b, d] pos) (tvT X.K fun ρ μ => toT (evE C F (.chn o p ma mb md) ρ μ)) :=
  (pt_chain (op_cmp g.hu o) (op_cmp g.hu p) ha hb hd (mark_of (o := p.op) pd)).wk fun σ H Q q => chn_go (a := a) (b := b) (d := d) (tv_test (fun _ _ _ _ => chn_bool) q)
theorem noneV_iff {K : PySem.W.Frag} {M : Nat → Addr} {G : Hp} {v : V} {w : Val} (r : RV K M G v w) : decide (v = .non) = noneV w := by
  cases r with
  | d r => cases r <;> simp [noneV]
  | p i => simp [noneV]
theorem isN_go {ma : E} {σ : L2.St} {H : Hp} {Q : V → Hp → Prop} (q : tv X.K (evE C F (.isN ma)) σ H Q) :
    tOp (fun x y H Q => y = .non ∧ Q (.bl (decide (x = .non))) H) (tv X.K (evE C F ma)) (tC .non) σ H Q := by
  obtain ⟨Fr, M, G, ρ, μ, r, μ', s, rr, e, q⟩ := q
  simp only [evE] at e
  obtain ⟨⟨v, μ1⟩, e1, e⟩ := bnd e
  cases e
  refine tv_go s rr e1 fun x H1 G1 l1 s1 n1 r1 => ⟨rfl, ?_⟩
  rw [noneV_iff r1]
  exact q _ H1 G1 l1 s1 n1 (.d (.bl _))
theorem notN_go {ma : E} {σ : L2.St} {H : Hp} {Q : V → Hp → Prop} (q : tv X.K (evE C F (.notN ma)) σ H Q) :
    tOp (fun x y H Q => y = .non ∧ Q (.bl (!decide (x = .non))) H) (tv X.K (evE C F ma)) (tC .non) σ H Q := by
  obtain ⟨Fr, M, G, ρ, μ, r, μ', s, rr, e, q⟩ := q
  simp only [evE] at e
  obtain ⟨⟨v, μ1⟩, e1, e⟩ := bnd e
  cases e
  refine tv_go s rr e1 fun x H1 G1 l1 s1 n1 r1 => ⟨rfl, ?_⟩
  rw [noneV_iff r1]
  exact q _ H1 G1 l1 s1 n1 (.d (.bl _))
theorem snd_isN {a : Expr} {ma : E} {j : Nat} {p pos : Pos} (ha : PE X a (tv X.K (evE C F ma))) : PE X (.Compare a [.Is] [.Constant .none j p] pos) (tv X.K (evE C F (.isN ma))) :=
  (pe_cmpR op_isN ha pe_non (nomark _)).wk fun σ H Q q => isN_go q
theorem snd_notN {a : Expr} {ma : E} {j : Nat} {p pos : Pos} (ha : PE X a (tv X.K (evE C F ma))) : PE X (.Compare a [.IsNot] [.Constant .none j p] pos) (tv X.K (evE C F (.notN ma))) :=
  (pe_cmpR op_notN ha pe_non (nomark _)).wk fun σ H Q q => notN_go q
theorem isN_bool {ma : E} {ρ : Rho} {μ μ' : Store} {v : Val} (e : evE C F (.isN ma) ρ μ = some (v, μ')) : ∃ b, v = .d (.bool b) := by
  simp only [evE] at e
  obtain ⟨⟨v, μ1⟩, e1, e⟩ := bnd e
  cases e
  exact ⟨_, rfl⟩
theorem notN_bool {ma : E} {ρ : Rho} {μ μ' : Store} {v : Val} (e : evE C F (.notN ma) ρ μ = some (v, μ')) : ∃ b, v = .d (.bool b) := by
  simp only [evE] at e
  obtain ⟨⟨v, μ1⟩, e1, e⟩ := bnd e
  cases e
  exact ⟨_, rfl⟩
theorem tst_isN {a : Expr} {ma : E} {j : Nat} {p pos : Pos} (ha : PE X a (tv X.K (evE C F ma))) : PT X (.Compare a [.Is] [.Constant .none j p] pos) (tvT X.K fun ρ μ => toT (evE C F (.isN ma) ρ μ)) :=
  (pt_cmpR op_isN ha pe_non (nomark _)).wk fun σ H Q q => isN_go (tv_test (fun _ _ _ _ => isN_bool) q)
theorem tst_notN {a : Expr} {ma : E} {j : Nat} {p pos : Pos} (ha : PE X a (tv X.K (evE C F ma))) : PT X (.Compare a [.IsNot] [.Constant .none j p] pos) (tvT X.K fun ρ μ => toT (evE C F (.notN ma) ρ μ)) :=
  (pt_cmpR op_notN ha pe_non (nomark _)).wk fun σ H Q q => notN_go (tv_test (fun _ _ _ _ => notN_bool) q)
theorem snd_neg {a : Expr} {ma : E} {pos : Pos} (ha : PE X a (tv X.K (evE C F ma))) : PE X (.UnaryOp .USub a pos) (tv X.K (evE C F (.neg ma))) := by
  refine (pe_un un_neg ha).wk fun σ H Q q => ?_
  obtain ⟨Fr, M, G, ρ, μ, r, μ', s, rr, e, q⟩ := q
  simp only [evE] at e
  obtain ⟨⟨i, μ1⟩, e1, e⟩ := bnd e
  cases e
  refine tv_go s rr (toI_some e1) fun x H1 G1 l1 s1 n1 r1 => ?_
  cases r1 with
  | d r1 => cases r1; exact ⟨i, rfl, q _ H1 G1 l1 s1 n1 (.d (.int _))⟩
theorem snd_inot {a : Expr} {ma : E} {pos : Pos} (ha : PE X a (tv X.K (evE C F ma))) : PE X (.UnaryOp .Not a pos) (tv X.K (evE C F (.inot ma))) := by
  refine (pe_notT ha).wk fun σ H Q q => ?_
  obtain ⟨Fr, M, G, ρ, μ, r, μ', s, rr, e, q⟩ := q
  simp only [evE] at e
  obtain ⟨⟨b, μ1⟩, e1, e⟩ := bnd e
  cases e
  obtain ⟨⟨v, μ2⟩, e2, e1⟩ := bnd e1
  obtain ⟨x, e3, e1⟩ := bnd e1
  obtain ⟨b', e4, e1⟩ := Option.map_eq_some_iff.mp e1
  cases e1
  exact tv_go s rr e2 fun x H1 G1 l1 s1 n1 r1 => ⟨_, truV_of s1 r1 e3 e4, q _ H1 G1 l1 s1 n1 (.d (.bl _))⟩
theorem tst_inot {a : Expr} {ma : E} {pos : Pos} (ha : PT X a (tvT X.K fun ρ μ => toT (evE C F ma ρ μ))) : PT X (.UnaryOp .Not a pos) (tvT X.K fun ρ μ => toT (evE C F (.inot ma) ρ μ)) := by
  refine (pt_not ha).wk fun σ H Q q => ?_
  obtain ⟨Fr, M, G, ρ, μ, r, μ', s, rr, e, q⟩ := q
  simp only [evE] at e
  obtain ⟨⟨v, μ1⟩, e1, e⟩ := bnd e
  obtain ⟨⟨b, μ2⟩, e2, e1⟩ := bnd e1
  cases e1
  cases e
  exact ⟨Fr, M, G, ρ, μ, b, μ2, s, rr, e2, q⟩
theorem snd_ite {d a b : Expr} {md ma mb : E} {pos : Pos} (hd : PT X d (tvT X.K fun ρ μ => toT (evE C F md ρ μ))) (ha : PE X a (tv X.K (evE C F ma))) (hb : PE X b (tv X.K (evE C F mb))) : PE X (.IfExp d a b pos) (tv X.K (evE C F (.ite md ma mb))) := by
  refine (pe_ifExp hd ha hb).wk fun σ H Q q => ?_
  obtain ⟨Fr, M, G, ρ, μ, r, μ', s, rr, e, q⟩ := q
  simp only [evE] at e
  obtain ⟨⟨b, μ1⟩, e1, e⟩ := bnd e
  refine ⟨Fr, M, G, ρ, μ, b, μ1, s, rr, e1, fun H1 G1 l1 s1 n1 => ?_⟩
  cases b with
  | true =>
    rw [if_pos rfl] at e ⊢
    exact tv_go s1 (rr.mono l1) e fun v H2 G2 l2 s2 n2 r2 => q v H2 G2 (l1.trans l2) s2 (n2.trans n1) r2
  | false =>
    rw [if_neg Bool.false_ne_true] at e ⊢
    exact tv_go s1 (rr.mono l1) e fun v H2 G2 l2 s2 n2 r2 => q v H2 G2 (l1.trans l2) s2 (n2.trans n1) r2
theorem snd_idx {a b : Expr} {ma mb : E} {pos : Pos} (ha : PE X a (tv X.K (evE C F ma))) (hb : PE X b (tv X.K (evE C F mb))) (pb : plainX b = true) : PE X (.Subscript a b pos) (tv X.K (evE C F (.idx ma mb))) := by
  refine (pe_ix op_idx ha hb (plainIx_of pb)).wk fun σ H Q q => tv_bin ?_
  obtain ⟨Fr, M, G, ρ, μ, r, μ', s, rr, e, q⟩ := q
  exact ⟨Fr, M, G, ρ, μ, r, μ', s, rr, by simpa only [evE] using e, q⟩
theorem snd_oe_no : PO X none (tvO X.K (evO C F .no)) := by
  refine PO.wk po_none fun σ H Q q => ?_
  obtain ⟨Fr, M, G, ρ, μ, r, μ', s, rr, e, q⟩ := q
  simp only [evO] at e
  cases e
  exact q H G (Le.rfl' _) s rfl
theorem snd_oe_so {a : Expr} {ma : E} (ha : PE X a (tv X.K (evE C F ma))) : PO X (some a) (tvO X.K (evO C F (.so ma))) := by
  refine PO.wk (po_some ha) fun σ H Q q => ?_
  obtain ⟨Fr, M, G, ρ, μ, r, μ', s, rr, e, q⟩ := q
  simp only [evO] at e
  obtain ⟨⟨i, μ1⟩, e1, e⟩ := bnd e
  cases e
  refine tv_go s rr (toI_some e1) fun x H1 G1 l1 s1 n1 r1 => ?_
  cases r1 with
  | d r1 => cases r1; exact ⟨i, rfl, q H1 G1 l1 s1 n1⟩
theorem snd_sli {a : Expr} {lo hi : Option Expr} {ma : E} {ml mh : Oe} {p pos : Pos} (ha : PE X a (tv X.K (evE C F ma))) (hl : PO X lo (tvO X.K (evO C F ml))) (hh : PO X hi (tvO X.K (evO C F mh))) :
    PE X (.Subscript a (.Slice lo hi none p) pos) (tv X.K (evE C F (.sli ma ml mh))) := by
  refine (pe_slice op_sli ha hl hh).wk fun σ H Q q => ?_
  obtain ⟨Fr, M, G, ρ, μ, r, μ', s, rr, e, q⟩ := q
  simp only [evE] at e
  obtain ⟨⟨v, μ1⟩, e1, e⟩ := bnd e
  obtain ⟨⟨l, μ2⟩, e2, e⟩ := bnd e
  obtain ⟨⟨h, μ3⟩, e3, e⟩ := bnd e
  obtain ⟨x, z, g1, g2, rfl, rfl⟩ := rd1_some e
  refine tv_go s rr e1 fun x H1 G1 l1 s1 n1 r1 => ⟨Fr, M, G1, ρ, μ1, l, μ2, s1, rr.mono l1, e2, fun H2 G2 l2 s2 n2 => ⟨Fr, M, G2, ρ, μ2, h, _, s2, rr.mono (l1.trans l2), e3, fun H3 G3 l3 s3 n3 => ?_⟩⟩
  exact ⟨Fr, M, G3, _, v, _, z, s3, r1.mono (l2.trans l3), g1, g2, fun u H4 G4 l4 s4 r4 => q u H4 G4 (l1.trans (l2.trans (l3.trans l4))) s4 (n3.trans (n2.trans n1)) (.d r4)⟩

/-! ### and, or -/
theorem snd_and1 {a : Expr} {ma : E} {pos : Pos} (ha : PE X a (tv X.K (evE C F ma))) : PE X (.BoolOp .And [a] pos) (tv X.K fun ρ μ => (evAnd C F (.cons ma .nil) ρ μ).map fun (b, μ1) => (.d (.bool b), μ1)) := by
  refine (pe_one ha).wk fun σ H Q q => ?_
  obtain ⟨Fr, M, G, ρ, μ, r, μ', s, rr, e, q⟩ := q
  obtain ⟨⟨b, μ1⟩, e1, e⟩ := Option.map_eq_some_iff.mp e
  cases e
  simp only [evAnd] at e1
  exact tv_go s rr (toB_some e1) q
theorem snd_or1 {a : Expr} {ma : E} {pos : Pos} (ha : PE X a (tv X.K (evE C F ma))) : PE X (.BoolOp .Or [a] pos) (tv X.K fun ρ μ => (evOr C F (.cons ma .nil) ρ μ).map fun (b, μ1) => (.d (.bool b), μ1)) := by
  refine (pe_one ha).wk fun σ H Q q => ?_
  obtain ⟨Fr, M, G, ρ, μ, r, μ', s, rr, e, q⟩ := q
  obtain ⟨⟨b, μ1⟩, e1, e⟩ := Option.map_eq_some_iff.mp e
  cases e
  simp only [evOr] at e1
  exact tv_go s rr (toB_some e1) q
theorem snd_and2 {a b : Expr} {ma mb : E} {rest : List Expr} {es : Es} {pos : Pos} (ha : PE X a (tv X.K (evE C F ma)))
    (hb : PE X (.BoolOp .And (b :: rest) pos) (tv X.K fun ρ μ => (evAnd C F (.cons mb es) ρ μ).map fun (b, μ1) => (.d (.bool b), μ1))) :
    PE X (.BoolOp .And (a :: b :: rest) pos) (tv X.K fun ρ μ => (evAnd C F (.cons ma (.cons mb es)) ρ μ).map fun (b, μ1) => (.d (.bool b), μ1)) := by
  refine (pe_and ha hb).wk fun σ H Q q => ?_
  obtain ⟨Fr, M, G, ρ, μ, r, μ', s, rr, e, q⟩ := q
  obtain ⟨⟨b, μ1⟩, e1, e⟩ := Option.map_eq_some_iff.mp e
  cases e
  rw [evAnd] at e1
  obtain ⟨⟨b1, μ2⟩, e2, e1⟩ := bnd e1
  try dsimp only at e1
  refine tv_go s rr (toB_some e2) fun x H1 G1 l1 s1 n1 r1 => ?_
  cases r1 with
  | d r1 =>
    cases r1
    refine ⟨b1, rfl, ?_⟩
    cases b1 with
    | true =>
      rw [if_pos rfl] at e1 ⊢
      exact tv_go s1 (rr.mono l1) (by show Option.map _ (evAnd C F (.cons mb es) ρ μ2) = _; rw [e1]; rfl) fun v H2 G2 l2 s2 n2 r2 => q v H2 G2 (l1.trans l2) s2 (n2.trans n1) r2
    | false =>
      rw [if_neg Bool.false_ne_true] at e1 ⊢
      cases e1
      exact q _ H1 G1 l1 s1 n1 (.d (.bl _))
theorem snd_or2 {a b : Expr} {ma mb : E} {rest : List Expr} {es : Es} {pos : Pos} (ha : PE X a (tv X.K (evE C F ma)))
    (hb : PE X (.BoolOp .Or (b :: rest) pos) (tv X.K fun ρ μ => (evOr C F (.cons mb es) ρ μ).map fun (b, μ1) => (.d (.bool b), μ1))) :
    PE X (.BoolOp .Or (a :: b :: rest) pos) (tv X.K fun ρ μ => (evOr C F (.cons ma (.cons mb es)) ρ μ).map fun (b, μ1) => (.d (.bool b), μ1)) := by
  refine (pe_or ha hb).wk fun σ H Q q => ?_
  obtain ⟨Fr, M, G, ρ, μ, r, μ', s, rr, e, q⟩ := q
  obtain ⟨⟨b, μ1⟩, e1, e⟩ := Option.map_eq_some_iff.mp e
  cases e
  rw [evOr] at e1
  obtain ⟨⟨b1, μ2⟩, e2, e1⟩ := bnd e1
  try dsimp only at e1
  refine tv_go s rr (toB_some e2) fun x H1 G1 l1 s1 n1 r1 => ?_
  cases r1 with
  | d r1 =>
    cases r1
    refine ⟨b1, rfl, ?_⟩
    cases b1 with
    | true =>
      rw [if_pos rfl] at e1 ⊢
      cases e1
      exact q _ H1 G1 l1 s1 n1 (.d (.bl _))
    | false =>
      rw [if_neg Bool.false_ne_true] at e1 ⊢
      exact tv_go s1 (rr.mono l1) (by show Option.map _ (evOr C F (.cons mb es) ρ μ2) = _; rw [e1]; rfl) fun v H2 G2 l2 s2 n2 r2 => q v H2 G2 (l1.trans l2) s2 (n2.trans n1) r2
theorem tvT_B {ma : E} {K : PySem.W.Frag} {σ : L2.St} {H : Hp} {Q : Bool → Hp → Prop} {Fr : Hp} {M : Nat → Addr} {G : Hp} {ρ : Rho} {μ μ' : Store} {b : Bool} (s : SS K Fr M G H μ) (rr : RR K M G ρ σ) (e : toB (evE C F ma ρ μ) = some (b, μ'))
    (q : ∀ H' G', Le G G' → SS K Fr M G' H' μ' → μ'.length = μ.length → Q b H') : tvT K (fun ρ μ => toT (evE C F ma ρ μ)) σ H Q := ⟨Fr, M, G, ρ, μ, b, μ', s, rr, toT_of_toB e, q⟩
theorem tst_and1 {a : Expr} {ma : E} {pos : Pos} (ha : PT X a (tvT X.K fun ρ μ => toT (evE C F ma ρ μ))) : PW X (.BoolOp .And [a] pos) (tvT X.K (evAnd C F (.cons ma .nil))) := by
  refine (pw_and1 ha).wk fun σ H Q q => ?_
  obtain ⟨Fr, M, G, ρ, μ, r, μ', s, rr, e, q⟩ := q
  simp only [evAnd] at e
  exact tvT_B s rr e q
theorem tst_or1 {a : Expr} {ma : E} {pos : Pos} (ha : PT X a (tvT X.K fun ρ μ => toT (evE C F ma ρ μ))) : PW X (.BoolOp .Or [a] pos) (tvT X.K (evOr C F (.cons ma .nil))) := by
  refine (pw_or1 ha).wk fun σ H Q q => ?_
  obtain ⟨Fr, M, G, ρ, μ, r, μ', s, rr, e, q⟩ := q
  simp only [evOr] at e
  exact tvT_B s rr e q
theorem tst_and2 {a b : Expr} {ma mb : E} {rest : List Expr} {es : Es} {pos : Pos} (ha : PT X a (tvT X.K fun ρ μ => toT (evE C F ma ρ μ))) (hb : PW X (.BoolOp .And (b :: rest) pos) (tvT X.K (evAnd C F (.cons mb es)))) :
    PW X (.BoolOp .And (a :: b :: rest) pos) (tvT X.K (evAnd C F (.cons ma (.cons mb es)))) := by
  refine (pw_and ha hb).wk fun σ H Q q => ?_
  obtain ⟨Fr, M, G, ρ, μ, r, μ', s, rr, e, q⟩ := q
  rw [evAnd] at e
  obtain ⟨⟨b1, μ2⟩, e2, e⟩ := bnd e
  try dsimp only at e
  refine tvT_B s rr e2 fun H1 G1 l1 s1 n1 => ?_
  cases b1 with
  | true =>
    rw [if_pos rfl] at e ⊢
    exact tvT_go s1 (rr.mono l1) e fun H2 G2 l2 s2 n2 => q H2 G2 (l1.trans l2) s2 (n2.trans n1)
  | false =>
    rw [if_neg Bool.false_ne_true] at e ⊢
    cases e
    exact q H1 G1 l1 s1 n1
theorem tst_or2 {a b : Expr} {ma mb : E} {rest : List Expr} {es : Es} {pos : Pos} (ha : PT X a (tvT X.K fun ρ μ => toT (evE C F ma ρ μ))) (hb : PW X (.BoolOp .Or (b :: rest) pos) (tvT X.K (evOr C F (.cons mb es)))) :
    PW X (.BoolOp .Or (a :: b :: rest) pos) (tvT X.K (evOr C F (.cons ma (.cons mb es)))) := by
  refine (pw_or ha hb).wk fun σ H Q q => ?_
  obtain ⟨Fr, M, G, ρ, μ, r, μ', s, rr, e, q⟩ := q
  rw [evOr] at e
  obtain ⟨⟨b1, μ2⟩, e2, e⟩ := bnd e
  try dsimp only at e
  refine tvT_B s rr e2 fun H1 G1 l1 s1 n1 => ?_
  cases b1 with
  | true =>
    rw [if_pos rfl] at e ⊢
    cases e
    exact q H1 G1 l1 s1 n1
  | false =>
    rw [if_neg Bool.false_ne_true] at e ⊢
    exact tvT_go s1 (rr.mono l1) e fun H2 G2 l2 s2 n2 => q H2 G2 (l1.trans l2) s2 (n2.trans n1)
theorem tvT_map {K : PySem.W.Frag} {f : Rho → Store → Option (Bool × Store)} {σ : L2.St} {H : Hp} {Q : Bool → Hp → Prop} (q : tvT K (fun ρ μ => toT ((f ρ μ).map fun (b, μ1) => (Val.d (.bool b), μ1))) σ H Q) : tvT K f σ H Q := by
  obtain ⟨Fr, M, G, ρ, μ, r, μ', s, rr, e, q⟩ := q
  obtain ⟨⟨v, μ1⟩, e1, e⟩ := bnd e
  obtain ⟨⟨b, μ2⟩, e2, e1⟩ := Option.map_eq_some_iff.mp e1
  cases e1
  cases e
  exact ⟨Fr, M, G, ρ, μ, _, _, s, rr, e2, q⟩

/-! ### calls -/
theorem boot_all (b : BI) : bootBuiltins (b.nm : Str) = some b.fv := by
  cases b <;> decide +kernel
theorem boot_cls (k : Cls) : bootBuiltins (k.ty : Str) = some (.type k.ty) := by
  cases k <;> decide +kernel
theorem nm_in (b : BI) : bltNames.contains b.nm = true := by cases b <;> decide
theorem cls_in (k : Cls) : bltNames.contains k.ty = true := by cases k <;> decide
theorem nm_name (b : BI) : (b.nm : Str) ≠ "__name__" := by cases b <;> decide +kernel
theorem cls_name (b : Cls) : (b.ty : Str) ≠ "__name__" := by cases b <;> decide +kernel
theorem arg1 {f : Rho → Store → Option (Val × Store)} {r : V → Hp → VK → Prop} {σ : L2.St} {H : Hp} {Q : VK} (h : tUn r (tv X.K f) σ H Q) : tCB (fun vs H Q => ∃ x, vs = [x] ∧ r x H Q) (tCons (tv X.K f) tNil) σ H Q := by
  obtain ⟨Fr, M, G, ρ, μ, w, μ', s, rr, e, q⟩ := h
  exact ⟨Fr, M, G, ρ, μ, w, μ', s, rr, e, fun v H1 G1 l1 s1 n1 r1 => ⟨v, rfl, q v H1 G1 l1 s1 n1 r1⟩⟩
theorem un_go {f : Rho → Store → Option (Val × Store)} {g : D → Option D} {K : PySem.W.Frag} {σ : L2.St} {H : Hp} {Q : VK} (h : tv K (fun ρ μ => (f ρ μ).bind fun (v, μ1) => rd1 μ1 v g) σ H Q) : tUn (rd1R K g) (tv K f) σ H Q := by
  obtain ⟨Fr, M, G, ρ, μ, r, μ', s, rr, e, q⟩ := h
  obtain ⟨⟨v, μ1⟩, e1, e⟩ := bnd e
  obtain ⟨x, z, g1, g2, rfl, rfl⟩ := rd1_some e
  exact tv_go s rr e1 fun x H1 G1 l1 s1 n1 r1 => ⟨Fr, M, G1, _, v, _, z, s1, r1, g1, g2, fun u H2 G2 l2 s2 r2 => q u H2 G2 (l1.trans l2) s2 n1 (.d r2)⟩
theorem snd_bi (g : Good X c C k F) {a : Expr} {ma : E} {b : BI} {p pos : Pos} (hg : glB X.env.scope (b.nm : Str) = true) (ha : PE X a (tv X.K (evE C F ma))) (pa : plainX a = true) : PE X (.Call (.Name (b.nm : Str) p) [a] [] pos) (tv X.K (evE C F (.bi b ma))) := by
  obtain ⟨h1, h2⟩ := g.gl hg
  have hm := blt_of g b.nm (nm_in b)
  have hs : starEach (a :: []) X.env = (false, eval a X.env) :: starEach [] X.env := star_of pa
  have main : PE X (.Call (.Name (b.nm : Str) p) [a] [] pos) (tCB (fun vs H Q => ∃ x, vs = [x] ∧ rd1R X.K (biD b) x H Q) (tCons (tv X.K (evE C F ma)) tNil)) := by
    have hb := boot_all b
    have hc := call_bi (X := X) g b
    have hn := nm_name b
    cases b with
    | tup => exact pe_callTy hc h1 hm hb (pa_cons ha pa_nil hs) hn h2 hs rfl
    | lst => exact pe_callTy hc h1 hm hb (pa_cons ha pa_nil hs) hn h2 hs rfl
    | int => exact pe_callTy hc h1 hm hb (pa_cons ha pa_nil hs) hn h2 hs rfl
    | bool => exact pe_callTy hc h1 hm hb (pa_cons ha pa_nil hs) hn h2 hs rfl
    | _ => exact pe_callB hc h1 hm hb (pa_cons ha pa_nil hs) hn h2 hs rfl
  refine main.wk fun σ H Q q => arg1 (un_go ?_)
  obtain ⟨Fr, M, G, ρ, μ, r, μ', s, rr, e, q⟩ := q
  exact ⟨Fr, M, G, ρ, μ, r, μ', s, rr, by simpa only [evE] using e, q⟩
theorem snd_isi (g : Good X c C k F) {a : Expr} {ma : E} {t : Cls} {p p2 pos : Pos} (hg : glB X.env.scope ("isinstance" : Str) = true) (hg2 : glB X.env.scope (t.ty : Str) = true) (ha : PE X a (tv X.K (evE C F ma))) (pa : plainX a = true) :
    PE X (.Call (.Name "isinstance" p) [a, .Name (t.ty : Str) p2] [] pos) (tv X.K (evE C F (.isi ma t))) := by
  obtain ⟨h1, h2⟩ := g.gl hg
  obtain ⟨h3, h4⟩ := g.gl hg2
  have hs : starEach (a :: [.Name (t.ty : Str) p2]) X.env = (false, eval a X.env) :: starEach [.Name (t.ty : Str) p2] X.env := star_of pa
  refine (pe_callB (call_isiD t) h1 (blt_of g "isinstance" (by decide)) (by decide +kernel) (pa_cons ha (pa_cons (pe_bltn h3 (blt_of g t.ty (cls_in t)) (boot_cls t) (v := .ty t.ty) rfl (cls_name t) h4) pa_nil) hs) (by decide) h2 hs rfl).wk fun σ H Q q => ?_
  obtain ⟨Fr, M, G, ρ, μ, r, μ', s, rr, e, q⟩ := q
  simp only [evE] at e
  obtain ⟨⟨v, μ1⟩, e1, e⟩ := bnd e
  obtain ⟨x, z, g1, g2, rfl, rfl⟩ := rd1_some e
  cases g2
  exact tv_go s rr e1 fun y H1 G1 l1 s1 n1 r1 => ⟨y, x, rfl, s1.rd r1 g1, q _ H1 G1 l1 s1 n1 (.d (.bl _))⟩
theorem snd_call (g : Good X c C k F) {ls : List Expr} {es : Es} {f : Nat} {x : Str} {p pos : Pos} (hg : glB X.env.scope x = true) (hf : c.fns[f]? = some x) (hb : f < mB) (ha : PA X ls (tvV X.K (evVs C F es))) (pl : ∀ e ∈ ls, plainX e = true) (hl : es.len = ls.length) :
    PE X (.Call (.Name x p) ls [] pos) (tv X.K (evE C F (.call f es))) := by
  obtain ⟨h1, h2⟩ := g.gl hg
  refine ⟨fun pins s σ H Q I h => ?_⟩
  obtain ⟨Fr, M, G, ρ, μ, r, μ', ss, rr, e, q⟩ := h
  simp only [evE] at e
  obtain ⟨⟨ws, μ1⟩, e1, e⟩ := bnd e
  obtain ⟨fa, hm, hk, run⟩ := g.calls.1 f x ws μ1 r μ' hf hb e
  have fin : ∀ (us : List Value) (vs : List V) (s1 : Shared) (H1 G1 : Hp), Inv X pins σ H1 s1 → Vals vs us → Le G G1 → SS X.K Fr M G1 H1 μ1 → μ1.length = μ.length → RVs X.K M G1 vs ws →
      wpAny (model X.prog X.w) X.A (call (.ref fa) us) (EP X pins σ Q) X.xe s1 := fun us vs s1 H1 G1 I1 rv l1 s1' n1 r1 => by
    have rn := run X.A X.stack s1 H1 us vs Q Fr M G1 g.room g.grd I1.env0 rv s1' r1 fun v H2 G2 l2 s2 n2 r2 => q v H2 G2 (l1.trans l2) s2 (n2.trans n1) r2
    refine wpAny_call (codeAny_mono rn fun res s' hq => ?_)
    cases res with
    | error er => exact False.elim hq
    | ok fl =>
      cases fl with
      | ret u => exact I1.after hq
      | next => exact False.elim hq
      | brk => exact False.elim hq
      | cont => exact False.elim hq
  refine wpAny_Call_Name_kw (ld_glob I h1 hm ?_ h2)
  cases ls with
  | nil =>
    cases es with
    | cons m es => simp [Es.len] at hl
    | nil =>
      simp only [evVs] at e1
      cases e1
      exact PySem.W.callWith_K0 I.kIn hk (fin [] [] s H G I .nil (Le.rfl' _) ss rfl .nil)
  | cons a ls =>
    have hs : starEach (a :: ls) X.env = (false, eval a X.env) :: starEach ls X.env := star_of (pl a List.mem_cons_self)
    refine PySem.W.callWith_K (h₀ := X.base) I.ok.mod.kin hk (thn (ha.run pos pins s σ H _ I ⟨Fr, M, G, ρ, μ, ws, μ1, ss, rr, e1, fun vs H' G' a b c d => (⟨G', a, b, c, d⟩ : ∃ G', Le G G' ∧ SS X.K Fr M G' H' μ1 ∧ μ1.length = μ.length ∧ RVs X.K M G' vs ws)⟩) fun us s1 hq => ?_) hs (star_any fun e he => pl e (List.mem_cons_of_mem _ he))
    obtain ⟨vs, H1, I1, rv, G1, l1, s1', n1, r1⟩ := hq
    exact ⟨I1.kIn, fin us vs s1 H1 G1 I1 rv l1 s1' n1 r1⟩
end Mu

namespace Mu
open PySem PySem.Spec
open PyProof.Rows L2
variable {X : Cx} {c : Sc} {C : Cons} {k : Nat} {F : Calls}

/-! ### targets -/
def gsOf : List Nat → TGs
  | [] => gNil
  | i :: is => gCons (gName i) (gsOf is)
def gOf (K : PySem.W.Frag) : Tg → TG
  | .nm i => gName i
  | .tp is => gTup K is.length (gsOf is)
theorem wipe_comm (σ : L2.St) (i : Nat) : ∀ vs : List Nat, wipe (σ.set i none) vs = (wipe σ vs).set i none
  | [] => rfl
  | v :: vs => by
    show (wipe (σ.set i none) vs).set v none = ((wipe σ vs).set v none).set i none
    rw [wipe_comm σ i vs]
    by_cases h : i = v
    · subst h; rfl
    · rw [List.set_comm _ _ h]
theorem wipe_set {i : Nat} {x : Option V} : ∀ {vs : List Nat} {σ : L2.St}, i ∈ vs → wipe (σ.set i x) vs = wipe σ vs
  | v :: vs, σ, h => by
    show (wipe (σ.set i x) vs).set v none = (wipe σ vs).set v none
    by_cases hv : i ∈ vs
    · rw [wipe_set hv]
    · have e : i = v := by
        rcases List.mem_cons.mp h with e | h
        · exact e
        · exact absurd h hv
      subst e
      have : ∀ (vs : List Nat) (σ : L2.St), i ∉ vs → wipe (σ.set i x) vs = (wipe σ vs).set i x := by
        intro vs
        induction vs with
        | nil => intro σ _; rfl
        | cons w ws ih =>
          intro σ hn
          have h1 : i ≠ w := fun e => hn (e ▸ List.mem_cons_self)
          have h2 : i ∉ ws := fun e => hn (List.mem_cons_of_mem _ e)
          show (wipe (σ.set i x) ws).set w none = ((wipe σ ws).set w none).set i x
          rw [ih σ h2, List.set_comm _ _ h1]
      rw [this vs σ hv, List.set_set]
theorem wipe_idem (σ : L2.St) : ∀ vs : List Nat, wipe (wipe σ vs) vs = wipe σ vs
  | [] => rfl
  | v :: vs => by
    show (wipe ((wipe σ vs).set v none) vs).set v none = (wipe σ vs).set v none
    rw [wipe_comm, wipe_idem σ vs, List.set_set]
theorem gs_go {K : PySem.W.Frag} {M : Nat → Addr} {G : Hp} {H : Hp} : ∀ {is : List Nat} {ds : List D} {vs : List V} {ρ ρ1 : Rho} {σ : L2.St} {Q : L2.St → Hp → Prop}, RR K M G ρ σ → RpA K G vs ds → setAll ρ is ds = some ρ1 →
    (∀ σ1, RR K M G ρ1 σ1 → (∀ ws, (∀ i ∈ is, i ∈ ws) → wipe σ1 ws = wipe σ ws) → Q σ1 H) → gsOf is vs σ H Q
  | [], [], vs, ρ, ρ1, σ, Q, rr, r, e, q => by
    cases r
    simp only [setAll, Option.some.injEq] at e
    subst e
    exact ⟨rfl, q σ rr fun _ _ => rfl⟩
  | [], _ :: _, _, _, _, _, _, _, _, e, _ => by simp [setAll] at e
  | _ :: _, [], _, _, _, _, _, _, _, e, _ => by simp [setAll] at e
  | i :: is, d :: ds, vs, ρ, ρ1, σ, Q, rr, r, e, q => by
    cases r with
    | cons h t =>
      simp only [setAll] at e
      refine ⟨_, _, rfl, ?_⟩
      refine gs_go (rr.set (.d h)) t e fun σ1 rr1 hw => q σ1 rr1 fun ws hs => ?_
      rw [hw ws fun j hj => hs j (List.mem_cons_of_mem _ hj), wipe_set (hs i List.mem_cons_self)]
theorem setAll_len : ∀ {is : List Nat} {ds : List D} {ρ ρ1 : Rho}, setAll ρ is ds = some ρ1 → ds.length = is.length
  | [], [], _, _, _ => rfl
  | [], _ :: _, _, _, e => by simp [setAll] at e
  | _ :: _, [], _, _, e => by simp [setAll] at e
  | i :: is, d :: ds, ρ, ρ1, e => by
    simp only [setAll] at e
    simp only [List.length_cons, setAll_len e]
theorem tg_go {K : PySem.W.Frag} {Fr : Hp} {M : Nat → Addr} {G H : Hp} {μ : Store} {tg : Tg} {d : D} {v : V} {ρ ρ1 : Rho} {σ : L2.St} {Q : L2.St → Hp → Prop} (s : SS K Fr M G H μ) (rr : RR K M G ρ σ) (r : Rp K G v d) (e : tgS ρ tg d = some ρ1)
    (q : ∀ σ1, RR K M G ρ1 σ1 → (∀ ws, (∀ i ∈ tg.ix, i ∈ ws) → wipe σ1 ws = wipe σ ws) → Q σ1 H) : gOf K tg v σ H Q := by
  cases tg with
  | nm i =>
    simp only [tgS, Option.some.injEq] at e
    subst e
    exact q _ (rr.set (.d r)) fun ws hs => wipe_set (hs i (by simp [Tg.ix]))
  | tp is =>
    cases d with
    | tuple xs =>
      simp only [tgS] at e
      cases r with
      | tup h r z => exact ⟨_, _, rfl, s.sub.sqt h, by rw [r.length, setAll_len e], gs_go rr r e q⟩
    | _ => simp [tgS] at e
theorem ckNm_pg {N : List Str} {fn : Str → Bool} {i : Nat} {e : Expr} (h : ckNm N X.env.scope fn i e = true) (hN : X.N = N) (nd : X.N.Nodup) (hf : ∀ x, fn x = true → X.fn x = true) : PG X e (gName i) := by
  cases e with
  | Name x pos =>
    simp only [ckNm, Bool.and_eq_true, Bool.or_eq_true, decide_eq_true_eq, locB] at h
    exact pg_name nd (by rw [hN]; exact h.1.1) h.1.2 (h.2.imp (hf x) id)
  | _ => exact absurd (show false = true from h) Bool.false_ne_true
theorem ckNms_pg {N : List Str} {fn : Str → Bool} (hN : X.N = N) (nd : X.N.Nodup) (hf : ∀ x, fn x = true → X.fn x = true) : ∀ {is : List Nat} {es : List Expr}, ckNms N X.env.scope fn is es = true →
    PGs X es (gsOf is) ∧ (assignEach es X.env).length = is.length ∧ (assignEach es X.env).findIdx? (·.1) = none
  | [], [], _ => ⟨pgs_nil, rfl, rfl⟩
  | [], _ :: _, h => by simp [ckNms] at h
  | _ :: _, [], h => by simp [ckNms] at h
  | i :: is, e :: es, h => by
    simp only [ckNms, Bool.and_eq_true] at h
    obtain ⟨a, b, d⟩ := ckNms_pg hN nd hf h.2
    have p := ckNm_pg h.1 hN nd hf
    cases e with
    | Name x pos =>
      refine ⟨pgs_cons p a rfl, by show _ + 1 = _ + 1; rw [b], ?_⟩
      show List.findIdx? (·.1) ((false, assign (.Name x pos) X.env) :: assignEach es X.env) = none
      rw [List.findIdx?_cons, d]
      rfl
    | _ => exact absurd (show false = true from h.1) Bool.false_ne_true
theorem ckTg_pg {N : List Str} {fn : Str → Bool} {tg : Tg} {e : Expr} (h : ckTg N X.env.scope fn tg e = true) (hN : X.N = N) (nd : X.N.Nodup) (calm : X.calm = true) (hf : ∀ x, fn x = true → X.fn x = true) : PG X e (gOf X.K tg) := by
  cases tg with
  | nm i => exact ckNm_pg h hN nd hf
  | tp is =>
    cases e with
    | Tuple ts j pos =>
      obtain ⟨a, b, d⟩ := ckNms_pg hN nd hf (show ckNms N X.env.scope fn is ts = true from h)
      exact pg_tup calm a b d
    | _ => exact absurd (show false = true from h) Bool.false_ne_true

/-! ### what is walked -/
theorem still_d (x : D) (xs : List D) (μ : Store) : Still (.d x) xs μ = True := rfl
theorem wk_list {K : PySem.W.Frag} {Fr : Hp} {M : Nat → Addr} {G H : Hp} {μ : Store} {a : Addr} {v : Val} {xs : List D} (s : SS K Fr M G H μ) (r : RV K M G (.ref a) v) (e : deref μ v = some (.list xs)) : Wk K M G (Itl K a) xs v := by
  have at' : ∀ (Fr : Hp) (M' : Nat → Addr) (H' G' : Hp) (μ' : Store), SS K Fr M' G' H' μ' → Le G G' → AgV M M' v → Still v xs μ' → ∃ vs, SqL K H' a vs ∧ RpA K G' vs xs := fun Fr M' H' G' μ' s' l ag st => by
    cases r with
    | d r =>
      simp only [deref, Option.some.injEq] at e
      subst e
      cases r with
      | lst h r z => exact ⟨_, (s'.sub.lsx (l.lsx h)).sql, r.mono l⟩
    | p i =>
      obtain ⟨vs, h1, h2, _⟩ := s'.cell i xs st
      rw [show M' i = M i from ag] at h1
      exact ⟨vs, .inl (.inl h1), h2⟩
  refine ⟨fun Fr M' i H' G' μ' s' l ag st hi => ?_, fun Fr M' i H' G' μ' x H2 s' l ag st hi y => ?_, fun Fr M' H' G' μ' s' l ag st => ?_⟩
  · obtain ⟨vs, h1, h2⟩ := at' Fr M' H' G' μ' s' l ag st
    have hv : i < vs.length := by rw [h2.length]; exact hi
    exact ⟨vs, vs[i], h1, List.getElem?_eq_getElem hv⟩
  · obtain ⟨vs, h1, h2⟩ := at' Fr M' H' G' μ' s' l ag st
    obtain ⟨e1, e2⟩ := y
    obtain ⟨d, h3, h4⟩ := h2.get' (e2 vs h1)
    exact ⟨e1, d, h3, h4⟩
  · obtain ⟨vs, h1, h2⟩ := at' Fr M' H' G' μ' s' l ag st
    exact ⟨vs, h1, by rw [h2.length]; exact Nat.le_refl _⟩
theorem wk_tup {K : PySem.W.Frag} {Fr : Hp} {M : Nat → Addr} {G H : Hp} {μ : Store} {a : Addr} {v : Val} {xs : List D} (s : SS K Fr M G H μ) (r : RV K M G (.ref a) v) (e : deref μ v = some (.tuple xs)) : Wk K M G (Itt K a) xs v := by
  have at' : ∀ (Fr : Hp) (M' : Nat → Addr) (H' G' : Hp) (μ' : Store), SS K Fr M' G' H' μ' → Le G G' → ∃ vs, SqT K H' a vs ∧ RpA K G' vs xs := fun Fr M' H' G' μ' s' l => by
    cases r with
    | d r =>
      simp only [deref, Option.some.injEq] at e
      subst e
      cases r with
      | tup h r z => exact ⟨_, s'.sub.sqt (l.sqt h), r.mono l⟩
    | p i => unfold deref at e; simp only at e; split at e <;> cases e
  refine ⟨fun Fr M' i H' G' μ' s' l ag st hi => ?_, fun Fr M' i H' G' μ' x H2 s' l ag st hi y => ?_, fun Fr M' H' G' μ' s' l ag st => ?_⟩
  · obtain ⟨vs, h1, h2⟩ := at' Fr M' H' G' μ' s' l
    have hv : i < vs.length := by rw [h2.length]; exact hi
    exact ⟨vs, vs[i], h1, List.getElem?_eq_getElem hv⟩
  · obtain ⟨vs, h1, h2⟩ := at' Fr M' H' G' μ' s' l
    obtain ⟨e1, e2⟩ := y
    obtain ⟨d, h3, h4⟩ := h2.get' (e2 vs h1)
    exact ⟨e1, d, h3, h4⟩
  · obtain ⟨vs, h1, h2⟩ := at' Fr M' H' G' μ' s' l
    exact ⟨vs, h1, by rw [h2.length]; exact Nat.le_refl _⟩
theorem still_of {μ : Store} {v : Val} {xs : List D} (e : deref μ v = some (.list xs)) : Still v xs μ := by
  cases v with
  | d x => trivial
  | p i =>
    unfold deref at e
    simp only at e
    split at e
    · rename_i ds hd
      cases e
      exact hd
    · cases e
theorem still_tup {μ : Store} {v : Val} {xs : List D} (e : deref μ v = some (.tuple xs)) : Still v xs μ := by
  cases v with
  | d x => trivial
  | p i => unfold deref at e; simp only at e; split at e <;> cases e
theorem rng_len (a b : Int) : (rngD a b).length = (b - a).toNat := by simp [rngD]
theorem wk_rng {K : PySem.W.Frag} {M : Nat → Addr} {G : Hp} {a b : Int} {n : Nat} (hn : n = (b - a).toNat) : Wk K M G (Itr a n) (rngD a b) (.d .none) := by
  refine ⟨fun Fr M' i H' G' μ' s' l ag st hi => ?_, fun Fr M' i H' G' μ' x H2 s' l ag st hi y => ?_, fun Fr M' H' G' μ' s' l ag st => ?_⟩
  · rw [rng_len] at hi
    show i < n
    omega
  · obtain ⟨e1, e2⟩ := y
    subst e2
    rw [rng_len] at hi
    refine ⟨e1, .int (a + i), ?_, .int _⟩
    simp [rngD, hi]
  · show n ≤ (rngD a b).length
    rw [rng_len, hn]
    exact Nat.le_refl _
theorem rngOk_of {a b : Int} (h : rngOk a b = true) : (-(2 ^ 62) ≤ a ∧ a < 2 ^ 62 ∧ -(2 ^ 62) ≤ b ∧ b < 2 ^ 62) ∧ (b - a).toNat ≤ sizeLine := by
  simp only [rngOk, Bool.and_eq_true, decide_eq_true_eq] at h
  exact ⟨⟨h.1.1.1.1, h.1.1.1.2, h.1.1.2, h.1.2⟩, h.2⟩
theorem snd_seq {tg e : Expr} {m : E} (h : PE X e (tv X.K (evE C F m))) : PI X tg e (tvI X.K (evI C F (.seq m))) := by
  refine ((pi_list (tg := tg) h).or (pi_tup h)).wk fun σ H R q => ?_
  obtain ⟨Fr, M, G, ρ, μ, xs, v, μ', s, rr, e, q⟩ := q
  simp only [evI] at e
  obtain ⟨⟨w, μ1⟩, e1, e⟩ := bnd e
  obtain ⟨x, e2, e⟩ := bnd e
  cases x with
  | list ys =>
    cases e
    refine .inl (tv_go s rr e1 fun y H1 G1 l1 s1 n1 r1 => ?_)
    obtain ⟨a, vs, rfl, h1, h2, z⟩ := s1.rdL r1 e2
    exact ⟨a, rfl, ⟨vs, h1.sql⟩, q _ H1 G1 l1 s1 n1 z (still_of e2) (wk_list s1 r1 e2)⟩
  | tuple ys =>
    cases e
    refine .inr (tv_go s rr e1 fun y H1 G1 l1 s1 n1 r1 => ?_)
    obtain ⟨a, vs, rfl, h1, h2, z⟩ := s1.rdT r1 e2
    exact ⟨a, rfl, ⟨vs, h1⟩, q _ H1 G1 l1 s1 n1 z (still_tup e2) (wk_tup s1 r1 e2)⟩
  | _ => cases e
theorem snd_rng (g : Good X c C k F) {tg e : Expr} {m : E} {p pos : Pos} (hg : glB X.env.scope ("range" : Str) = true) (h : PE X e (tv X.K (evE C F m))) (pe : plainX e = true) : PI X tg (.Call (.Name "range" p) [e] [] pos) (tvI X.K (evI C F (.rng m))) := by
  have hs : starEach [e] X.env = [(false, eval e X.env)] := star_of pe
  refine (pi_range1 (tg := tg) (g.gl hg).1 (blt_of g "range" (by decide)) (pa_cons h pa_nil hs) hs).wk fun σ H R q => ?_
  obtain ⟨Fr, M, G, ρ, μ, xs, v, μ', s, rr, e, q⟩ := q
  simp only [evI] at e
  obtain ⟨⟨b, μ1⟩, e1, e⟩ := bnd e
  split at e
  · rename_i hb
    cases e
    obtain ⟨hb1, hb2⟩ := rngOk_of hb
    refine tv_go s rr (toI_some e1) fun y H1 G1 l1 s1 n1 r1 => ?_
    cases r1 with
    | d r1 =>
      cases r1
      exact ⟨b, rfl, hb1.2.2.1, hb1.2.2.2, q _ H1 G1 l1 s1 n1 (by rw [rng_len]; exact hb2) trivial (wk_rng (by rw [Int.sub_zero]))⟩
  · cases e
theorem snd_rng2 (g : Good X c C k F) {tg e e' : Expr} {m m' : E} {p pos : Pos} (hg : glB X.env.scope ("range" : Str) = true) (h : PE X e (tv X.K (evE C F m))) (h' : PE X e' (tv X.K (evE C F m'))) (pe : plainX e = true) (pe' : plainX e' = true) :
    PI X tg (.Call (.Name "range" p) [e, e'] [] pos) (tvI X.K (evI C F (.rng2 m m'))) := by
  have hs' : starEach [e'] X.env = [(false, eval e' X.env)] := star_of pe'
  have hs : starEach [e, e'] X.env = [(false, eval e X.env), (false, eval e' X.env)] := by rw [star_of pe, hs']
  refine (pi_range2 (tg := tg) (g.gl hg).1 (blt_of g "range" (by decide)) (pa_cons h (pa_cons h' pa_nil hs') (star_of pe)) hs hs').wk fun σ H R q => ?_
  obtain ⟨Fr, M, G, ρ, μ, xs, v, μ', s, rr, e, q⟩ := q
  simp only [evI] at e
  obtain ⟨⟨a, μ1⟩, e1, e⟩ := bnd e
  obtain ⟨⟨b, μ2⟩, e2, e⟩ := bnd e
  split at e
  · rename_i hb
    cases e
    obtain ⟨hb1, hb2⟩ := rngOk_of hb
    refine tv_go s rr (toI_some e1) fun y H1 G1 l1 s1 n1 r1 => tv_go s1 (rr.mono l1) (toI_some e2) fun y' H2 G2 l2 s2 n2 r2 => ?_
    cases r1 with
    | d r1 =>
      cases r1
      cases r2 with
      | d r2 =>
        cases r2
        exact ⟨a, b, rfl, hb1, q _ H2 G2 (l1.trans l2) s2 (n2.trans n1) (by rw [rng_len]; exact hb2) trivial (wk_rng rfl)⟩
  · cases e

/-! ### a list that is being made -/
section
variable {K : PySem.W.Frag} {Fr : Hp} {M : Nat → Addr} {G H : Hp} {μ : Store} {p : Addr} {as bs : List V} {ds : List D}
theorem SS.guard (s : SS K Fr M G H μ) (hp : H p = none) : SS K (upd Fr p (.lst [])) M G (upd H p (.lst [])) μ := by
  have s1 := s.new' (o := .lst []) hp
  have gp := s.free hp
  refine ⟨s1.sub, s1.cell, s1.out, s1.inj, fun a u e => ?_, fun a u e => ?_, fun i ds e => ?_⟩
  · by_cases h : a = p
    · subst h; rw [upd_same] at e ⊢; exact e
    · rw [upd_ne h] at e ⊢; exact s.frm a u e
  · by_cases h : a = p
    · subst h; exact gp
    · rw [upd_ne h] at e; exact s.frG a u e
  · obtain ⟨vs, h1, _⟩ := s.cell i ds e
    rw [upd_ne (ne_of_none h1 hp)]; exact s.frM i ds e
theorem SS.grown (s : SS K (upd Fr p (.lst as)) M G H μ) : SS K (upd Fr p (.lst bs)) M G (upd H p (.lst bs)) μ := by
  have gp := s.frG p _ upd_same
  have mp : ∀ (i : Nat) (ds : List D), μ[i]? = some (some ds) → M i ≠ p := fun i ds e z => by
    have := s.frM i ds e
    rw [z, upd_same] at this; cases this
  refine ⟨fun a u e => ?_, fun i ds e => ?_, s.out, s.inj, fun a u e => ?_, fun a u e => ?_, fun i ds e => ?_⟩
  · rw [upd_ne (ne_of_none e gp)]; exact s.sub a u e
  · obtain ⟨vs, h1, h2, z⟩ := s.cell i ds e
    exact ⟨vs, by rw [upd_ne (mp i ds e)]; exact h1, h2, z⟩
  · by_cases h : a = p
    · subst h; rw [upd_same] at e ⊢; exact e
    · rw [upd_ne h] at e ⊢; exact s.frm a u (by rw [upd_ne h]; exact e)
  · by_cases h : a = p
    · subst h; exact gp
    · rw [upd_ne h] at e; exact s.frG a u (by rw [upd_ne h]; exact e)
  · have := s.frM i ds e
    rw [upd_ne (mp i ds e)] at this ⊢; exact this
theorem SS.unguard (s : SS K (upd Fr p (.lst as)) M G H μ) (fp : Fr p = none) : SS K Fr M G H μ := by
  refine ⟨s.sub, s.cell, s.out, s.inj, fun a u e => s.frm a u (by rw [upd_ne (ne_of_none e fp)]; exact e), fun a u e => s.frG a u (by rw [upd_ne (ne_of_none e fp)]; exact e), fun i ds e => ?_⟩
  have := s.frM i ds e
  by_cases h : M i = p
  · rw [h]; exact fp
  · rw [upd_ne h] at this; exact this
theorem SS.held (s : SS K (upd Fr p (.lst as)) M G H μ) : H p = some (.lst as) := s.frm p _ upd_same
theorem SS.apart (s : SS K (upd Fr p (.lst as)) M G H μ) : G p = none ∧ ∀ (i : Nat) (ds : List D), μ[i]? = some (some ds) → M i ≠ p :=
  ⟨s.frG p _ upd_same, fun i ds e z => by
    have := s.frM i ds e
    rw [z, upd_same] at this; cases this⟩
/-- a new list becomes data -/
theorem SS.kept (s : SS K Fr M G H μ) (hp : H p = some (.lst as)) (gp : G p = none) (fp : Fr p = none) (mp : ∀ (i : Nat) (ds : List D), μ[i]? = some (some ds) → M i ≠ p) (r : RpA K G as ds) (z : ds.length ≤ sizeLine) :
    ∃ G', Le G G' ∧ SS K Fr M G' H μ ∧ Rp K G' (.ref p) (.list ds) := by
  have le : Le G (upd G p (.lst as)) := Le.new gp
  refine ⟨_, le, ⟨fun a u e => ?_, fun i ds e => ?_, fun i ds e => ?_, s.inj, s.frm, fun a u e => ?_, s.frM⟩, .lst (.inl (.inl upd_same)) (r.mono le) z⟩
  · by_cases h : a = p
    · subst h; rw [upd_same] at e; cases e; exact hp
    · rw [upd_ne h] at e; exact s.sub a u e
  · obtain ⟨vs, h1, h2, z⟩ := s.cell i ds e
    exact ⟨vs, h1, h2.mono le, z⟩
  · rw [upd_ne (mp i ds e)]; exact s.out i ds e
  · rw [upd_ne (ne_of_none e fp)]; exact s.frG a u e
end
def toL (r : Option (Val × Store)) : Option (List D × Store) := r.bind fun (v, μ1) => match v with
  | .d (.list xs) => some (xs, μ1)
  | _ => none
theorem toL_some {r : Option (Val × Store)} {i : List D} {μ : Store} (h : toL r = some (i, μ)) : r = some (.d (.list i), μ) := by
  obtain ⟨⟨v, μ1⟩, e, h2⟩ := bnd h
  rw [e]
  dsimp only at h2
  split at h2
  · cases h2; rfl
  · cases h2
/-- a reading that makes a new list -/
def tvN (K : PySem.W.Frag) (f : Rho → Store → Option (Val × Store)) : TE := fun σ H Q => ∃ (Fr : Hp) (M : Nat → Addr) (G : Hp) (ρ : Rho) (μ : Store) (ds : List D) (μ' : Store), SS K Fr M G H μ ∧ RR K M G ρ σ ∧ f ρ μ = some (.d (.list ds), μ') ∧
  ∀ p vs H' G', Le G G' → SS K Fr M G' H' μ' → μ'.length = μ.length → H' p = some (.lst vs) → G' p = none → Fr p = none → (∀ (i : Nat) (ds : List D), μ'[i]? = some (some ds) → M i ≠ p) → RpA K G' vs ds → ds.length ≤ sizeLine → Q (.ref p) H'
theorem tvN_tv {K : PySem.W.Frag} {f : Rho → Store → Option (Val × Store)} (hf : ∀ ρ μ r μ', f ρ μ = some (r, μ') → ∃ ds, r = .d (.list ds)) {σ : L2.St} {H : Hp} {Q : VK} (q : tv K f σ H Q) : tvN K f σ H Q := by
  obtain ⟨Fr, M, G, ρ, μ, r, μ', s, rr, e, q⟩ := q
  obtain ⟨ds, rfl⟩ := hf _ _ _ _ e
  refine ⟨Fr, M, G, ρ, μ, ds, μ', s, rr, e, fun p vs H1 G1 l1 s1 n1 hp gp fp mp r1 z => ?_⟩
  obtain ⟨G2, l2, s2, r2⟩ := s1.kept hp gp fp mp r1 z
  exact q _ H1 G2 (l1.trans l2) s2 n1 (.d r2)
theorem newL_some {r : Option (Val × Store)} {ds : List D} {μ : Store} (e : newL r = some (.d (.list ds), μ)) : r = some (.d (.list ds), μ) := by
  unfold newL at e
  split at e
  · rw [← e]
  · cases e
theorem callM_list {f : Nat} {es : Es} : ∀ (ρ : Rho) (μ : Store) (r : Val) (μ' : Store), evE C F (.callM f es) ρ μ = some (r, μ') → ∃ ds, r = .d (.list ds) := by
  intro ρ μ r μ' e
  simp only [evE] at e
  obtain ⟨⟨ws, μ1⟩, e1, e⟩ := bnd e
  unfold newL at e
  split at e
  · cases e; exact ⟨_, rfl⟩
  · cases e
theorem snd_callM (g : Good X c C k F) {ls : List Expr} {es : Es} {f : Nat} {x : Str} {p pos : Pos} (hg : glB X.env.scope x = true) (hf : c.fns[f]? = some x) (ha : PA X ls (tvV X.K (evVs C F es))) (pl : ∀ e ∈ ls, plainX e = true) (hl : es.len = ls.length) :
    PE X (.Call (.Name x p) ls [] pos) (tvN X.K (evE C F (.callM f es))) := by
  obtain ⟨h1, h2⟩ := g.gl hg
  refine ⟨fun pins s σ H Q I h => ?_⟩
  obtain ⟨Fr, M, G, ρ, μ, ds, μ', ss, rr, e, q⟩ := h
  simp only [evE] at e
  obtain ⟨⟨ws, μ1⟩, e1, e⟩ := bnd e
  have e := newL_some e
  obtain ⟨fa, hm, hk, run⟩ := g.calls.2 f x ws μ1 ds μ' hf e
  have fin : ∀ (us : List Value) (vs : List V) (s1 : Shared) (H1 G1 : Hp), Inv X pins σ H1 s1 → Vals vs us → Le G G1 → SS X.K Fr M G1 H1 μ1 → μ1.length = μ.length → RVs X.K M G1 vs ws →
      wpAny (model X.prog X.w) X.A (call (.ref fa) us) (EP X pins σ Q) X.xe s1 := fun us vs s1 H1 G1 I1 rv l1 s1' n1 r1 => by
    have rn := run X.A X.stack s1 H1 us vs Q Fr M G1 g.room g.grd I1.env0 rv s1' r1 fun p zs H2 G2 l2 s2 n2 hp gp fp mp r2 z => q p zs H2 G2 (l1.trans l2) s2 (n2.trans n1) hp gp fp mp r2 z
    refine wpAny_call (codeAny_mono rn fun res s' hq => ?_)
    cases res with
    | error er => exact False.elim hq
    | ok fl =>
      cases fl with
      | ret u => exact I1.after hq
      | next => exact False.elim hq
      | brk => exact False.elim hq
      | cont => exact False.elim hq
  refine wpAny_Call_Name_kw (ld_glob I h1 hm ?_ h2)
  cases ls with
  | nil =>
    cases es with
    | cons m es => simp [Es.len] at hl
    | nil =>
      simp only [evVs] at e1
      cases e1
      exact PySem.W.callWith_K0 I.kIn hk (fin [] [] s H G I .nil (Le.rfl' _) ss rfl .nil)
  | cons a ls =>
    have hs : starEach (a :: ls) X.env = (false, eval a X.env) :: starEach ls X.env := star_of (pl a List.mem_cons_self)
    refine PySem.W.callWith_K (h₀ := X.base) I.ok.mod.kin hk (thn (ha.run pos pins s σ H _ I ⟨Fr, M, G, ρ, μ, ws, μ1, ss, rr, e1, fun vs H' G' a b c d => (⟨G', a, b, c, d⟩ : ∃ G', Le G G' ∧ SS X.K Fr M G' H' μ1 ∧ μ1.length = μ.length ∧ RVs X.K M G' vs ws)⟩) fun us s1 hq => ?_) hs (star_any fun e he => pl e (List.mem_cons_of_mem _ he))
    obtain ⟨vs, H1, I1, rv, G1, l1, s1', n1, r1⟩ := hq
    exact ⟨I1.kIn, fin us vs s1 H1 G1 I1 rv l1 s1' n1 r1⟩
end Mu

namespace Mu
open PySem PySem.Spec
open PyProof.Rows L2
variable {X : Cx} {c : Sc} {C : Cons} {k : Nat} {F : Calls}

theorem compL_nil {ok : Store → Prop} {f : D → Store → Option (List D × Store)} {μ μ' : Store} {ys : List D} (h : compL ok f [] μ = some (ys, μ')) : ok μ ∧ ys = [] ∧ μ' = μ := by
  simp only [compL] at h
  split at h
  · rename_i q; cases h; exact ⟨q, rfl, rfl⟩
  · cases h
theorem compL_cons {ok : Store → Prop} {f : D → Store → Option (List D × Store)} {x : D} {xs : List D} {μ μ' : Store} {ys : List D} (h : compL ok f (x :: xs) μ = some (ys, μ')) :
    ok μ ∧ ∃ zs μ1 ws, f x μ = some (zs, μ1) ∧ compL ok f xs μ1 = some (ws, μ') ∧ ys = zs ++ ws := by
  simp only [compL] at h
  split at h
  · rename_i q
    obtain ⟨⟨zs, μ1⟩, e1, h⟩ := bnd h
    obtain ⟨⟨ws, μ2⟩, e2, h⟩ := bnd h
    cases h
    exact ⟨q, zs, μ1, ws, e1, e2, rfl⟩
  · cases h
theorem own_snd (N : List Str) (own : List Nat) : (ownP N own).map (·.2) = own := by
  unfold ownP
  rw [List.map_map]
  exact List.map_id own
theorem drop_cons {α : Type} {xs : List α} {i : Nat} {d : α} (h : xs[i]? = some d) : xs.drop i = d :: xs.drop (i + 1) := by
  obtain ⟨hi, e⟩ := List.getElem?_eq_some_iff.mp h
  rw [List.drop_eq_getElem_cons hi, e]
/-- one turn's end: an item kept -/
abbrev TurnF := Rho → Store → Option (Bool × Store)
theorem snd_comp (g : Good X c C k F) {own : List Nat} {tg : Tg} {it : It} {cs : Es} {elt : E} {tg' iter elt' : Expr} {ifs : List Expr} {scope : Scope} {pos : Pos} (hi : PI X tg' iter (tvI X.K (evI C F it))) (pi : plainX iter = true) (ok : blkC X.N X.env.scope scope (ownP c.N own) = true)
    (hix : ∀ i ∈ tg.ix, i ∈ own)
    (hg : ∀ (s : Shared) (H : Hp) (A : Addr) (cl : List (Str × Addr)) (fp : List Addr), PG (X.blk s H scope (compEnvC scope cl A X.env) fp) tg' (gOf X.K tg))
    (ht : ∀ (s : Shared) (H : Hp) (A : Addr) (cl : List (Str × Addr)) (fp : List Addr), PTs (X.blk s H scope (compEnvC scope cl A X.env) fp) ifs (tvT X.K (evCs C F cs)))
    (he : ∀ (s : Shared) (H : Hp) (A : Addr) (cl : List (Str × Addr)) (fp : List Addr), PE (X.blk s H scope (compEnvC scope cl A X.env) fp) elt' (tv X.K (evE C F elt))) :
    PE X (.ListComp elt' [⟨tg', iter, ifs, 0⟩] scope pos) (tvN X.K (evE C F (.comp own tg it cs elt))) ∧
    (∀ {i : Nat} {y : Str} {py spos : Pos}, X.N[i]? = some y → X.env.scope.names.lookup y = some .local → swapsWith (.ListComp elt' [⟨tg', iter, ifs, 0⟩] scope pos) (some (.Name y py)) spos.line X.env = pure true →
      PS X (.Assign [.Name y py] (.ListComp elt' [⟨tg', iter, ifs, 0⟩] scope pos) spos) (tAsg (tvN X.K (evE C F (.comp own tg it cs elt))) (gName i))) := by
  have go : ∀ σ H Q, tvN X.K (evE C F (.comp own tg it cs elt)) σ H Q → tLc (tvI X.K (evI C F it)) (gOf X.K tg) (tvT X.K (evCs C F cs)) (tv X.K (evE C F elt)) ((ownP c.N own).map (·.2)) σ H Q := by
    intro σ H Q q
    rw [own_snd]
    obtain ⟨Fr, M, G, ρ, μ, ds0, μ40, s, rr, e, q⟩ := q
    simp only [evE] at e
    obtain ⟨⟨⟨xs, v⟩, μ1⟩, e1, e⟩ := bnd e
    obtain ⟨⟨ys, μ4⟩, e2, e⟩ := bnd e
    cases e
    refine ⟨Fr, M, G, ρ, μ, xs, v, μ1, s, rr, e1, fun J H1 G1 l1 s1 n1 hz _ wk p hp => ?_⟩
    have fp := s1.frFree hp
    refine ⟨fun i m H => m = xs.length - i ∧ i ≤ xs.length ∧ ∃ (G2 : Hp) (μi : Store) (acc : List V) (ds rest : List D), SS X.K (upd Fr p (.lst acc)) M G2 H μi ∧ Le G1 G2 ∧ μi.length = μ1.length ∧ RpA X.K G2 acc ds ∧ ds.length ≤ i ∧
      compL (Still v xs) (fun x μ1 => (tgS (wipeR ρ own) tg x).bind fun ρ1 => (evCs C F cs ρ1 μ1).bind fun (k, μ2) =>
        if k = true then (toF (evE C F elt ρ1 μ2)).bind fun (y, μ3) => some ([y], μ3) else some ([], μ2)) (xs.drop i) μi = some (rest, μ4) ∧ ds ++ rest = ys,
      ⟨xs.length, by omega, Nat.zero_le _, G1, μ1, [], [], ys, s1.guard hp, Le.rfl' _, rfl, .nil, Nat.le_refl _, e2, rfl⟩, ?_⟩
    rintro i m H2 ⟨rfl, hi2, G2, μi, acc, ds, rest, s2, l2, n2, r2, z2, e3, e4⟩
    have s2' := s2.unguard fp
    by_cases hlt : i < xs.length
    · have hx : xs[i]? = some xs[i] := List.getElem?_eq_getElem hlt
      rw [drop_cons hx] at e3
      obtain ⟨st, zs, μ6, ws, e5, e6, rfl⟩ := compL_cons e3
      obtain ⟨ρ1, e7, e5⟩ := bnd e5
      obtain ⟨⟨b, μ7⟩, e8, e5⟩ := bnd e5
      refine .inr ⟨wk.go _ _ i H2 G2 μi s2 l2 (.rf _ _) st hlt, fun H => i + 1 ≤ xs.length ∧ ∃ (G2 : Hp) (μi : Store) (acc : List V) (ds rest : List D), SS X.K (upd Fr p (.lst acc)) M G2 H μi ∧ Le G1 G2 ∧ μi.length = μ1.length ∧ RpA X.K G2 acc ds ∧ ds.length ≤ i + 1 ∧
        compL (Still v xs) (fun x μ1 => (tgS (wipeR ρ own) tg x).bind fun ρ1 => (evCs C F cs ρ1 μ1).bind fun (k, μ2) =>
          if k = true then (toF (evE C F elt ρ1 μ2)).bind fun (y, μ3) => some ([y], μ3) else some ([], μ2)) (xs.drop (i + 1)) μi = some (rest, μ4) ∧ ds ++ rest = ys,
        fun H' ⟨a, b⟩ => ⟨xs.length - (i + 1), by omega, rfl, a, b⟩, fun x H' y => ?_⟩
      obtain ⟨rfl, d, hd, rd⟩ := wk.yld _ _ i H2 G2 μi x H' s2 l2 (.rf _ _) st hlt y
      rw [hx] at hd
      cases hd
      have rrw : RR X.K M G2 (wipeR ρ own) (wipe σ own) := (rr.mono (l1.trans l2)).wiped own
      refine tg_go s2 rrw rd e7 fun σ1 rr1 hw => ⟨by rw [hw own hix, wipe_idem], ?_⟩
      refine tvT_go s2 rr1 e8 fun H3 G3 l3 s3 n3 => ?_
      cases b with
      | true =>
        try dsimp only at e5
        rw [if_pos rfl] at e5 ⊢
        obtain ⟨⟨y, μ8⟩, e9, e5⟩ := bnd e5
        cases e5
        obtain ⟨⟨w, μ9⟩, e10, e9⟩ := bnd e9
        refine tv_go s3 (rr1.mono l3) e10 fun u H4 G4 l4 s4 n4 r4 => ?_
        obtain ⟨G5, l5, s5, r5, n5⟩ := s4.frzV r4 e9
        refine ⟨acc, s5.held, ?_, hlt, G5, _, acc ++ [u], ds ++ [y], ws, s5.grown, l2.trans (l3.trans (l4.trans l5)), n5.trans (n4.trans (n3.trans n2)), (r2.mono (l3.trans (l4.trans l5))).append (.cons r5 .nil), by simp; omega, e6, by rw [← e4]; simp⟩
        rw [r2.length]
        omega
      | false =>
        try dsimp only at e5
        rw [if_neg Bool.false_ne_true] at e5 ⊢
        cases e5
        exact ⟨hlt, G3, _, acc, ds, ws, s3, l2.trans l3, n3.trans n2, r2.mono l3, by omega, e6, by rw [← e4]; rfl⟩
    · have ei : i = xs.length := by omega
      subst ei
      rw [List.drop_length] at e3
      obtain ⟨st, rfl, rfl⟩ := compL_nil e3
      rw [List.append_nil] at e4
      subst e4
      obtain ⟨gp, mp⟩ := s2.apart
      exact .inl ⟨wk.stop _ _ H2 G2 _ s2 l2 (.rf _ _) st, q p acc H2 G2 (l1.trans l2) s2' (n2.trans n1) s2.held gp fp mp r2 (Nat.le_trans z2 hz)⟩
  refine ⟨(pe_lc g.calm g.nd hi (blkOk_by ok) hg ht he fun x => folded_of pi).wk go, fun {i y py spos} h1 h2 h3 => ?_⟩
  refine ⟨fun pins s σ H Dn I q => (ps_setLc g.calm g.nd h1 h2 h3 hi (blkOk_by ok) hg ht he fun x => folded_of pi).run pins s σ H Dn I ?_⟩
  exact go σ H _ q

theorem snd_comp2 (g : Good X c C k F) {own : List Nat} {tg tg1 : Tg} {it it1 : It} {cs : Es} {elt : E} {tg' iter tg1' iter1 elt' : Expr} {ifs : List Expr} {scope : Scope} {pos : Pos} (hi : PI X tg' iter (tvI X.K (evI C F it))) (pi : plainX iter = true) (pi1 : plainX iter1 = true) (ok : blkC X.N X.env.scope scope (ownP c.N own) = true)
    (hix : ∀ i ∈ tg.ix, i ∈ own) (hix1 : ∀ i ∈ tg1.ix, i ∈ own)
    (hg : ∀ (s : Shared) (H : Hp) (A : Addr) (cl : List (Str × Addr)) (fp : List Addr), PG (X.blk s H scope (compEnvC scope cl A X.env) fp) tg' (gOf X.K tg))
    (hi1 : ∀ (s : Shared) (H : Hp) (A : Addr) (cl : List (Str × Addr)) (fp : List Addr), PI (X.blk s H scope (compEnvC scope cl A X.env) fp) tg1' iter1 (tvI X.K (evI C F it1)))
    (hg1 : ∀ (s : Shared) (H : Hp) (A : Addr) (cl : List (Str × Addr)) (fp : List Addr), PG (X.blk s H scope (compEnvC scope cl A X.env) fp) tg1' (gOf X.K tg1))
    (ht : ∀ (s : Shared) (H : Hp) (A : Addr) (cl : List (Str × Addr)) (fp : List Addr), PTs (X.blk s H scope (compEnvC scope cl A X.env) fp) ifs (tvT X.K (evCs C F cs)))
    (he : ∀ (s : Shared) (H : Hp) (A : Addr) (cl : List (Str × Addr)) (fp : List Addr), PE (X.blk s H scope (compEnvC scope cl A X.env) fp) elt' (tv X.K (evE C F elt))) :
    PE X (.ListComp elt' [⟨tg', iter, [], 0⟩, ⟨tg1', iter1, ifs, 0⟩] scope pos) (tvN X.K (evE C F (.comp2 own tg it tg1 it1 cs elt))) ∧
    (∀ {i : Nat} {y : Str} {py spos : Pos}, X.N[i]? = some y → X.env.scope.names.lookup y = some .local → swapsWith (.ListComp elt' [⟨tg', iter, [], 0⟩, ⟨tg1', iter1, ifs, 0⟩] scope pos) (some (.Name y py)) spos.line X.env = pure true →
      PS X (.Assign [.Name y py] (.ListComp elt' [⟨tg', iter, [], 0⟩, ⟨tg1', iter1, ifs, 0⟩] scope pos) spos) (tAsg (tvN X.K (evE C F (.comp2 own tg it tg1 it1 cs elt))) (gName i))) := by
  have go : ∀ σ H Q, tvN X.K (evE C F (.comp2 own tg it tg1 it1 cs elt)) σ H Q → tLc2 (tvI X.K (evI C F it)) (gOf X.K tg) tYes (tvI X.K (evI C F it1)) (gOf X.K tg1) (tvT X.K (evCs C F cs)) (tv X.K (evE C F elt)) ((ownP c.N own).map (·.2)) tg1.ix σ H Q := by
    intro σ H Q q
    rw [own_snd]
    obtain ⟨Fr, M, G, ρ, μ, ds0, μ40, s, rr, e, q⟩ := q
    simp only [evE] at e
    obtain ⟨⟨⟨xs, v⟩, μ1⟩, e1, e⟩ := bnd e
    obtain ⟨⟨ys, μ4⟩, e2, e⟩ := bnd e
    split at e
    rotate_left
    · cases e
    rename_i hys
    cases e
    refine ⟨Fr, M, G, ρ, μ, xs, v, μ1, s, rr, e1, fun J H1 G1 l1 s1 n1 hz _ wk p hp => ?_⟩
    have fp := s1.frFree hp
    refine ⟨fun i m H => m = xs.length - i ∧ i ≤ xs.length ∧ ∃ (G2 : Hp) (μi : Store) (acc : List V) (ds rest : List D), SS X.K (upd Fr p (.lst acc)) M G2 H μi ∧ Le G1 G2 ∧ μi.length = μ1.length ∧ RpA X.K G2 acc ds ∧
      compL (Still v xs) (fun x μ1 => (tgS (wipeR ρ own) tg x).bind fun ρ1 => (evI C F it1 ρ1 μ1).bind fun ((ys, w), μ2) =>
        compL (Still w ys) (fun y μ2 => (tgS (wipeR ρ1 tg1.ix) tg1 y).bind fun ρ2 => (evCs C F cs ρ2 μ2).bind fun (k, μ3) =>
          if k = true then (toF (evE C F elt ρ2 μ3)).bind fun (z, μ4) => some ([z], μ4) else some ([], μ3)) ys μ2) (xs.drop i) μi = some (rest, μ4) ∧ ds ++ rest = ys,
      ⟨xs.length, by omega, Nat.zero_le _, G1, μ1, [], [], ys, s1.guard hp, Le.rfl' _, rfl, .nil, e2, rfl⟩, ?_⟩
    rintro i m H2 ⟨rfl, hi2, G2, μi, acc, ds, rest, s2, l2, n2, r2, e3, e4⟩
    have s2' := s2.unguard fp
    by_cases hlt : i < xs.length
    · have hx : xs[i]? = some xs[i] := List.getElem?_eq_getElem hlt
      rw [drop_cons hx] at e3
      obtain ⟨st, zs, μ6, ws, e5, e6, rfl⟩ := compL_cons e3
      obtain ⟨ρ1, e7, e5⟩ := bnd e5
      obtain ⟨⟨⟨xs1, v1⟩, μ7⟩, e8, e5⟩ := bnd e5
      refine .inr ⟨wk.go _ _ i H2 G2 μi s2 l2 (.rf _ _) st hlt, fun H => i + 1 ≤ xs.length ∧ ∃ (G2 : Hp) (μi : Store) (acc : List V) (ds rest : List D), SS X.K (upd Fr p (.lst acc)) M G2 H μi ∧ Le G1 G2 ∧ μi.length = μ1.length ∧ RpA X.K G2 acc ds ∧
        compL (Still v xs) (fun x μ1 => (tgS (wipeR ρ own) tg x).bind fun ρ1 => (evI C F it1 ρ1 μ1).bind fun ((ys, w), μ2) =>
          compL (Still w ys) (fun y μ2 => (tgS (wipeR ρ1 tg1.ix) tg1 y).bind fun ρ2 => (evCs C F cs ρ2 μ2).bind fun (k, μ3) =>
            if k = true then (toF (evE C F elt ρ2 μ3)).bind fun (z, μ4) => some ([z], μ4) else some ([], μ3)) ys μ2) (xs.drop (i + 1)) μi = some (rest, μ4) ∧ ds ++ rest = ys,
        fun H' ⟨a, b⟩ => ⟨xs.length - (i + 1), by omega, rfl, a, b⟩, fun x H' y => ?_⟩
      obtain ⟨rfl, d, hd, rd⟩ := wk.yld _ _ i H2 G2 μi x H' s2 l2 (.rf _ _) st hlt y
      rw [hx] at hd
      cases hd
      have rrw : RR X.K M G2 (wipeR ρ own) (wipe σ own) := (rr.mono (l1.trans l2)).wiped own
      refine tg_go s2 rrw rd e7 fun σ1 rr1 hw => ⟨by rw [hw own hix, wipe_idem], ?_⟩
      unfold tYes
      dsimp only
      rw [if_pos rfl]
      refine ⟨upd Fr p (.lst acc), M, G2, ρ1, μi, xs1, v1, μ7, s2, rr1, e8, fun J1 H3 G3 l3 s3 n3 hz3 _ wk1 => ?_⟩
      refine ⟨fun j m H => m = xs1.length - j ∧ j ≤ xs1.length ∧ ∃ (G4 : Hp) (μj : Store) (acc : List V) (es rest : List D), SS X.K (upd Fr p (.lst acc)) M G4 H μj ∧ Le G3 G4 ∧ μj.length = μ1.length ∧ RpA X.K G4 acc es ∧
        compL (Still v1 xs1) (fun y μ2 => (tgS (wipeR ρ1 tg1.ix) tg1 y).bind fun ρ2 => (evCs C F cs ρ2 μ2).bind fun (k, μ3) =>
          if k = true then (toF (evE C F elt ρ2 μ3)).bind fun (z, μ4) => some ([z], μ4) else some ([], μ3)) (xs1.drop j) μj = some (rest, μ6) ∧ es ++ rest = ds ++ zs,
        ⟨xs1.length, by omega, Nat.zero_le _, G3, μ7, acc, ds, zs, s3, Le.rfl' _, n3.trans n2, r2.mono l3, e5, rfl⟩, ?_⟩
      rintro j m H4 ⟨rfl, hj, G4, μj, acc4, es, rest4, s4, l4, n4, r4, e9, e10⟩
      by_cases hlj : j < xs1.length
      · have hx1 : xs1[j]? = some xs1[j] := List.getElem?_eq_getElem hlj
        rw [drop_cons hx1] at e9
        obtain ⟨st1, zs1, μ8, ws1, e11, e12, rfl⟩ := compL_cons e9
        obtain ⟨ρ2, e13, e11⟩ := bnd e11
        obtain ⟨⟨b, μ9⟩, e14, e11⟩ := bnd e11
        refine .inr ⟨wk1.go _ _ j H4 G4 μj s4 l4 (.rf _ _) st1 hlj, fun H => j + 1 ≤ xs1.length ∧ ∃ (G4 : Hp) (μj : Store) (acc : List V) (es rest : List D), SS X.K (upd Fr p (.lst acc)) M G4 H μj ∧ Le G3 G4 ∧ μj.length = μ1.length ∧ RpA X.K G4 acc es ∧
          compL (Still v1 xs1) (fun y μ2 => (tgS (wipeR ρ1 tg1.ix) tg1 y).bind fun ρ2 => (evCs C F cs ρ2 μ2).bind fun (k, μ3) =>
            if k = true then (toF (evE C F elt ρ2 μ3)).bind fun (z, μ4) => some ([z], μ4) else some ([], μ3)) (xs1.drop (j + 1)) μj = some (rest, μ6) ∧ es ++ rest = ds ++ zs,
          fun H' ⟨a, b⟩ => ⟨xs1.length - (j + 1), by omega, rfl, a, b⟩, fun x1 H' y1 => ?_⟩
        obtain ⟨rfl, d1, hd1, rd1⟩ := wk1.yld _ _ j H4 G4 μj x1 H' s4 l4 (.rf _ _) st1 hlj y1
        rw [hx1] at hd1
        cases hd1
        have rrw1 : RR X.K M G4 (wipeR ρ1 tg1.ix) (wipe σ1 tg1.ix) := (rr1.mono (l3.trans l4)).wiped tg1.ix
        refine tg_go s4 rrw1 rd1 e13 fun σ2 rr2 hw2 => ⟨by rw [hw2 tg1.ix (fun i hi => hi), wipe_idem], ?_⟩
        refine tvT_go s4 rr2 e14 fun H5 G5 l5 s5 n5 => ?_
        cases b with
        | true =>
          try dsimp only at e11
          rw [if_pos rfl] at e11 ⊢
          obtain ⟨⟨z, μ10⟩, e15, e11⟩ := bnd e11
          cases e11
          obtain ⟨⟨w, μ11⟩, e16, e15⟩ := bnd e15
          refine tv_go s5 (rr2.mono l5) e16 fun u H6 G6 l6 s6 n6 r6 => ?_
          obtain ⟨G7, l7, s7, r7, n7⟩ := s6.frzV r6 e15
          have lenz : es.length + 1 ≤ sizeLine := by
            have h1 := congrArg List.length e10
            have h2 := congrArg List.length e4
            have h3 : ys.length ≤ sizeLine := hys
            simp only [List.length_append, List.length_cons, List.length_nil] at h1 h2
            clear hys
            omega
          exact ⟨acc4, s7.held, by rw [r4.length]; omega, hlj, G7, _, acc4 ++ [u], es ++ [z], ws1, s7.grown, l4.trans (l5.trans (l6.trans l7)), n7.trans (n6.trans (n5.trans n4)), (r4.mono (l5.trans (l6.trans l7))).append (.cons r7 .nil), e12, by rw [← e10]; simp⟩
        | false =>
          try dsimp only at e11
          rw [if_neg Bool.false_ne_true] at e11 ⊢
          cases e11
          exact ⟨hlj, G5, _, acc4, es, ws1, s5, l4.trans l5, n5.trans n4, r4.mono l5, e12, by rw [← e10]; rfl⟩
      · have ej : j = xs1.length := by omega
        subst ej
        rw [List.drop_length] at e9
        obtain ⟨st1, rfl, rfl⟩ := compL_nil e9
        rw [List.append_nil] at e10
        exact .inl ⟨wk1.stop _ _ H4 G4 _ s4 l4 (.rf _ _) st1, hlt, G4, _, acc4, es, ws, s4, l2.trans (l3.trans l4), n4, r4, e6, by rw [e10, List.append_assoc]; exact e4⟩
    · have ei : i = xs.length := by omega
      subst ei
      rw [List.drop_length] at e3
      obtain ⟨st, rfl, rfl⟩ := compL_nil e3
      rw [List.append_nil] at e4
      subst e4
      obtain ⟨gp, mp⟩ := s2.apart
      exact .inl ⟨wk.stop _ _ H2 G2 _ s2 l2 (.rf _ _) st, q p acc H2 G2 (l1.trans l2) s2' (n2.trans n1) s2.held gp fp mp r2 hys⟩
  refine ⟨(pe_lc2 g.calm g.nd hi (blkOk_by ok) (by rw [own_snd]; exact hix1) hg (fun _ _ _ _ _ => pts_nil) hi1 hg1 ht he (fun x => folded_of pi) (fun env x => folded_of pi1)).wk go, fun {i y py spos} h1 h2 h3 => ?_⟩
  refine ⟨fun pins s σ H Dn I q => (ps_setLc2 g.calm g.nd h1 h2 h3 hi (blkOk_by ok) (by rw [own_snd]; exact hix1) hg (fun _ _ _ _ _ => pts_nil) hi1 hg1 ht he (fun x => folded_of pi) (fun env x => folded_of pi1)).run pins s σ H Dn I ?_⟩
  exact go σ H _ q
end Mu

namespace Mu
open PySem PySem.Spec
open PyProof.Rows L2
variable {c : Sc} {C : Cons} {k : Nat} {F : Calls}

theorem new_lst {X : Cx} {ls : List Expr} {es : Es} {pos : Pos} (h : PA X ls (tvA X.K (evEs C F es))) (hl : es.len ≤ 1000) : PE X (.List ls pos) (tvN X.K (evE C F (.lst es))) := by
  refine (pe_lst h).wk fun σ H Q q => ?_
  obtain ⟨Fr, M, G, ρ, μ, ds, μ', s, rr, e, q⟩ := q
  simp only [evE] at e
  obtain ⟨⟨xs, μ1⟩, e1, e⟩ := bnd e
  cases e
  have hz : xs.length ≤ sizeLine := small_line (by rw [evEs_len e1]; exact hl)
  refine ⟨Fr, M, G, ρ, μ, xs, μ1, s, rr, e1, fun vs H1 G1 l1 s1 n1 r1 => ⟨by rw [r1.length]; exact hz, fun p hp => ?_⟩⟩
  refine q p vs _ G1 l1 (s1.new' hp) n1 upd_same (s1.free hp) (s1.frFree hp) (fun i ds e z => ?_) r1 hz
  obtain ⟨ws, h1, _⟩ := s1.cell i ds e
  rw [z, hp] at h1; cases h1
theorem new_rep {X : Cx} {ls : List Expr} {es : Es} {p1 pos : Pos} {b : Expr} {m : E} (h : PA X ls (tvA X.K (evEs C F es))) (hl : es.len ≤ 1000) (hb : PE X b (tv X.K (evE C F m))) : PE X (.BinOp (.List ls p1) .Mult b pos) (tvN X.K (evE C F (.rep es m))) := by
  refine (pe_op op_rep (pe_lst h) hb).wk fun σ H Q q => ?_
  obtain ⟨Fr, M, G, ρ, μ, ds, μ', s, rr, e, q⟩ := q
  simp only [evE] at e
  obtain ⟨⟨xs, μ1⟩, e1, e⟩ := bnd e
  obtain ⟨⟨n, μ2⟩, e2, e⟩ := bnd e
  have e2 := toI_some e2
  split at e
  · rename_i hc
    cases e
    have hz : xs.length ≤ sizeLine := small_line (by rw [evEs_len e1]; exact hl)
    refine ⟨Fr, M, G, ρ, μ, xs, μ1, s, rr, e1, fun vs H1 G1 l1 s1 n1 r1 => ⟨by rw [r1.length]; exact hz, fun p hp => ?_⟩⟩
    obtain ⟨s2, l2⟩ := s1.new (o := .lst vs) hp
    refine tv_go s2 (rr.mono (l1.trans l2)) e2 fun y H3 G3 l3 s3 n3 r3 => ?_
    cases r3 with
    | d r3 =>
      cases r3
      refine ⟨p, n, vs, rfl, rfl, s3.sub p _ (l3 p _ upd_same), hc.1, hc.2.1, by rw [r1.length]; exact hc.2.2, fun p2 hp2 => ?_⟩
      refine q p2 _ _ G3 (l1.trans (l2.trans l3)) (s3.new' hp2) (n3.trans n1) upd_same (s3.free hp2) (s3.frFree hp2) (fun i ds e z => ?_) ((r1.mono (l2.trans l3)).rep n.toNat) (by rw [len_rep]; exact hc.2.2)
      obtain ⟨ws, h1, _⟩ := s3.cell i ds e
      rw [z, hp2] at h1; cases h1
  · cases e
theorem new_list {X : Cx} (g : Good X c C k F) {a : Expr} {ma : E} {p pos : Pos} (hg : glB X.env.scope ("list" : Str) = true) (ha : PE X a (tv X.K (evE C F ma))) (pa : plainX a = true) : PE X (.Call (.Name "list" p) [a] [] pos) (tvN X.K (evE C F (.bi .lst ma))) := by
  obtain ⟨h1, h2⟩ := g.gl hg
  have hs : starEach (a :: []) X.env = (false, eval a X.env) :: starEach [] X.env := star_of pa
  refine (pe_callTy call_list_of h1 (blt_of g "list" (by decide)) (by decide +kernel) (pa_cons ha pa_nil hs) (by decide) h2 hs rfl).wk fun σ H Q q => ?_
  obtain ⟨Fr, M, G, ρ, μ, ds, μ', s, rr, e, q⟩ := q
  simp only [evE] at e
  obtain ⟨⟨v, μ1⟩, e1, e⟩ := bnd e
  obtain ⟨x, z, g1, g2, gz, rfl⟩ := rd1_some e
  cases gz
  refine tv_go s rr e1 fun y H1 G1 l1 s1 n1 r1 => ?_
  have fin : ∀ vs, RpA X.K G1 vs ds → ds.length ≤ sizeLine → ∀ l, H1 l = none → Q (.ref l) (upd H1 l (.lst vs)) := fun vs r z l hl => by
    refine q l vs _ G1 l1 (s1.new' hl) n1 upd_same (s1.free hl) (s1.frFree hl) (fun i ds e z => ?_) r z
    obtain ⟨ws, h1, _⟩ := s1.cell i ds e
    rw [z, hl] at h1; cases h1
  cases x with
  | list xs =>
    simp only [biD, Option.some.injEq, PyData.list.injEq] at g2
    subst g2
    obtain ⟨a, vs, rfl, h1, h2, z⟩ := s1.rdL r1 g1
    exact ⟨a, vs, rfl, .inl h1.sql, fin vs h2 z⟩
  | tuple xs =>
    simp only [biD, Option.some.injEq, PyData.list.injEq] at g2
    subst g2
    obtain ⟨a, vs, rfl, h1, h2, z⟩ := s1.rdT r1 g1
    exact ⟨a, vs, rfl, .inr h1, fin vs h2 z⟩
  | _ => simp [biD] at g2
theorem comp_list {own : List Nat} {tg : Tg} {it : It} {cs : Es} {elt : E} (ρ : Rho) (μ : Store) (r : Val) (μ' : Store) (h : evE C F (.comp own tg it cs elt) ρ μ = some (r, μ')) : ∃ ds, r = .d (.list ds) := by
  simp only [evE] at h
  obtain ⟨⟨⟨xs, v⟩, μ1⟩, e1, h⟩ := bnd h
  obtain ⟨⟨ys, μ5⟩, e2, h⟩ := bnd h
  cases h
  exact ⟨_, rfl⟩
theorem comp2_list {own : List Nat} {tg tg1 : Tg} {it it1 : It} {cs : Es} {elt : E} (ρ : Rho) (μ : Store) (r : Val) (μ' : Store) (h : evE C F (.comp2 own tg it tg1 it1 cs elt) ρ μ = some (r, μ')) : ∃ ds, r = .d (.list ds) := by
  simp only [evE] at h
  obtain ⟨⟨⟨xs, v⟩, μ1⟩, e1, h⟩ := bnd h
  obtain ⟨⟨ys, μ5⟩, e2, h⟩ := bnd h
  split at h
  · cases h; exact ⟨_, rfl⟩
  · cases h
theorem vacE {X : Cx} {e : Expr} {f : Rho → Store → Option (Val × Store)} (h : ∀ ρ μ, f ρ μ = none) : PE X e (tv X.K f) := ⟨fun _ _ _ _ _ _ q => by
  obtain ⟨Fr, M, G, ρ, μ, r, μ', s, rr, e, q⟩ := q
  rw [h] at e; cases e⟩
theorem vacW {X : Cx} {e : Expr} {f : Rho → Store → Option (Bool × Store)} (h : ∀ ρ μ, f ρ μ = none) : PW X e (tvT X.K f) := ⟨fun _ _ _ _ _ _ _ q => by
  obtain ⟨Fr, M, G, ρ, μ, r, μ', s, rr, e, q⟩ := q
  rw [h] at e; cases e⟩
theorem vacTs {X : Cx} {e : List Expr} {f : Rho → Store → Option (Bool × Store)} (h : ∀ ρ μ, f ρ μ = none) : PTs X e (tvT X.K f) := ⟨fun _ _ _ _ _ _ q => by
  obtain ⟨Fr, M, G, ρ, μ, r, μ', s, rr, e, q⟩ := q
  rw [h] at e; cases e⟩
theorem ff {p : Prop} (h : false = true) : p := absurd h Bool.false_ne_true

theorem ckI_plain {sc : Scope} {it : It} {e : Expr} (h : ckI c sc it e = true) : plainX e = true := by
  cases it with
  | seq m => exact ck_plain (by simpa only [ckI] using h)
  | rng m =>
    cases e <;> first | rfl | exact ff h
  | rng2 m m' =>
    cases e <;> first | rfl | exact ff h
mutual
theorem soundE : ∀ (m : E) (X : Cx) (g : Good X c C k F) (e : Expr), ckE c X.env.scope m e = true → PE X e (tv X.K (evE C F m)) ∧ (tOk m = true → PT X e (tvT X.K fun ρ μ => toT (evE C F m ρ μ)))
  | .var i, X, g, e, h => by
    cases e with
    | Name x pos =>
      simp only [ckE, Bool.and_eq_true, decide_eq_true_eq] at h
      have p := snd_var g (pos := pos) h.1 h.2
      exact ⟨p, fun _ => pt_tv p rfl⟩
    | _ => exact ff h
  | .non, X, g, e, h => by
    cases e with
    | Constant v j pos =>
      cases v with
      | none =>
        have p : PE X (.Constant .none j pos) (tv X.K (evE C F .non)) := PE.wk pe_non (tv_c (fun _ _ => by simp only [evE]) fun _ => .non)
        exact ⟨p, fun _ => pt_tv p rfl⟩
      | _ => exact ff h
    | _ => exact ff h
  | .bl b, X, g, e, h => by
    cases e with
    | Constant v j pos =>
      cases v with
      | bool b' =>
        simp only [ckE, decide_eq_true_eq] at h
        subst h
        have p : PE X (.Constant (.bool b) j pos) (tv X.K (evE C F (.bl b))) := PE.wk pe_bl (tv_c (fun _ _ => by simp only [evE]) fun _ => .bl b)
        exact ⟨p, fun _ => pt_tv p rfl⟩
      | _ => exact ff h
    | _ => exact ff h
  | .int b, X, g, e, h => by
    cases e with
    | Constant v j pos =>
      cases v with
      | int b' =>
        simp only [ckE, decide_eq_true_eq] at h
        subst h
        have p : PE X (.Constant (.int b) j pos) (tv X.K (evE C F (.int b))) := PE.wk pe_int (tv_c (fun _ _ => by simp only [evE]) fun _ => .int b)
        exact ⟨p, fun _ => pt_tv p rfl⟩
      | _ => exact ff h
    | _ => exact ff h
  | .str b, X, g, e, h => by
    cases e with
    | Constant v j pos =>
      cases v with
      | str b' =>
        simp only [ckE, decide_eq_true_eq] at h
        subst h
        have p : PE X (.Constant (.str (b : Str)) j pos) (tv X.K (evE C F (.str b))) := PE.wk pe_str (tv_c (fun _ _ => by simp only [evE]) fun _ => .str _)
        exact ⟨p, fun _ => pt_tv p rfl⟩
      | _ => exact ff h
    | _ => exact ff h
  | .con x n, X, g, e, h => by
    cases e with
    | Name y pos =>
      simp only [ckE, Bool.and_eq_true, decide_eq_true_eq] at h
      have p := snd_con g (pos := pos) (x := x) h.1.1 h.2
      exact ⟨p, fun _ => pt_tv p rfl⟩
    | _ => exact ff h
  | .tup es, X, g, e, h => by
    cases e with
    | Tuple ls j pos =>
      simp only [ckE, Bool.and_eq_true, decide_eq_true_eq] at h
      have p := snd_tup (x := j) (pos := pos) (soundEs es X g ls h.1).1 h.2
      exact ⟨p, fun _ => pt_tv p rfl⟩
    | _ => exact ff h
  | .lst es, X, g, e, h => by
    cases e with
    | List ls pos =>
      simp only [ckE, Bool.and_eq_true, decide_eq_true_eq] at h
      have p := snd_lst (pos := pos) (soundEs es X g ls h.1).1 h.2
      exact ⟨p, fun _ => pt_tv p rfl⟩
    | _ => exact ff h
  | .dct n, X, g, e, h => by
    cases e with
    | Dict ks vs pos =>
      have p : PE X (.Dict ks vs pos) (tv X.K (evE C F (.dct n))) := by
        simp only [ckE] at h
        unfold ckDct at h
        split at h
        · rename_i e1; cases e1; exact snd_dct0
        · rename_i e1; cases e1; exact snd_dct1
        · exact ff h
      exact ⟨p, fun _ => pt_tv p rfl⟩
    | _ => exact ff h
  | .rep es m, X, g, e, h => by
    cases e with
    | BinOp a o b pos =>
      cases a with
      | List ls p1 =>
        cases o with
        | Mult =>
          simp only [ckE, Bool.and_eq_true, decide_eq_true_eq] at h
          have p := snd_rep (p1 := p1) (pos := pos) (soundEs es X g ls h.1.1).1 h.1.2 (soundE m X g b h.2).1
          exact ⟨p, fun _ => pt_tv p rfl⟩
        | _ => exact ff h
      | _ => exact ff h
    | _ => exact ff h
  | .bop o a b, X, g, e, h => by
    cases e with
    | BinOp a' o' b' pos =>
      simp only [ckE, Bool.and_eq_true, decide_eq_true_eq] at h
      obtain ⟨⟨rfl, h1⟩, h2⟩ := h
      have p := snd_bop (pos := pos) (o := o) (soundE a X g a' h1).1 (soundE b X g b' h2).1
      exact ⟨p, fun _ => pt_tv p rfl⟩
    | _ => exact ff h
  | .neg a, X, g, e, h => by
    cases e with
    | UnaryOp o a' pos =>
      cases o with
      | USub =>
        simp only [ckE] at h
        have p := snd_neg (pos := pos) (soundE a X g a' h).1
        exact ⟨p, fun _ => PT.wk (pt_truth p fun whole => by rfl) fun σ H Q q => by
          obtain ⟨Fr, M, G, ρ, μ, r, μ', s, rr, e, q⟩ := q
          obtain ⟨⟨v, μ1⟩, e1, e⟩ := bnd e
          obtain ⟨x, e2, e⟩ := bnd e
          obtain ⟨b, e3, e⟩ := Option.map_eq_some_iff.mp e
          cases e
          exact tv_go s rr e1 fun x H1 G1 l1 s1 n1 r1 => ⟨_, truV_of s1 r1 e2 e3, q H1 G1 l1 s1 n1⟩⟩
      | _ => exact ff h
    | _ => exact ff h
  | .inot a, X, g, e, h => by
    cases e with
    | UnaryOp o a' pos =>
      cases o with
      | Not =>
        simp only [ckE] at h
        obtain ⟨p, q⟩ := soundE a X g a' h
        exact ⟨snd_inot p, fun ht => tst_inot (q ht)⟩
      | _ => exact ff h
    | _ => exact ff h
  | .cmp o a b, X, g, e, h => by
    cases e with
    | Compare a' os bs pos =>
      match os, bs, h with
      | [o'], [b'], h =>
        simp only [ckE, Bool.and_eq_true, decide_eq_true_eq] at h
        obtain ⟨⟨rfl, h1⟩, h2⟩ := h
        have pa := (soundE a X g a' h1).1
        have pb := (soundE b X g b' h2).1
        exact ⟨snd_cmp g pa pb (ck_plain h2), fun _ => tst_cmp g pa pb (ck_plain h2)⟩
      | [], _, h => exact ff h
      | [_], [], h => exact ff h
      | [_], _ :: _ :: _, h => exact ff h
      | _ :: _ :: _, _, h => exact ff h
    | _ => exact ff h
  | .chn o o2 a b d, X, g, e, h => by
    cases e with
    | Compare a' os bs pos =>
      match os, bs, h with
      | [o', o2'], [b', d'], h =>
        simp only [ckE, Bool.and_eq_true, decide_eq_true_eq] at h
        obtain ⟨⟨⟨⟨rfl, rfl⟩, h1⟩, h2⟩, h3⟩ := h
        have pa := (soundE a X g a' h1).1
        have pb := (soundE b X g b' h2).1
        have pd := (soundE d X g d' h3).1
        exact ⟨snd_chn g pa pb pd (ck_plain h3), fun _ => tst_chn g pa pb pd (ck_plain h3)⟩
      | [], _, h => exact ff h
      | [_], _, h => exact ff h
      | [_, _], [], h => exact ff h
      | [_, _], [_], h => exact ff h
      | [_, _], _ :: _ :: _ :: _, h => exact ff h
      | _ :: _ :: _ :: _, _, h => exact ff h
    | _ => exact ff h
  | .isN a, X, g, e, h => by
    cases e with
    | Compare a' os bs pos =>
      simp only [ckE, Bool.and_eq_true] at h
      obtain ⟨j, p, rfl, rfl⟩ := isNs_of h.1
      have pa := (soundE a X g a' h.2).1
      exact ⟨snd_isN pa, fun _ => tst_isN pa⟩
    | _ => exact ff h
  | .notN a, X, g, e, h => by
    cases e with
    | Compare a' os bs pos =>
      simp only [ckE, Bool.and_eq_true] at h
      obtain ⟨j, p, rfl, rfl⟩ := isNs_of h.1
      have pa := (soundE a X g a' h.2).1
      exact ⟨snd_notN pa, fun _ => tst_notN pa⟩
    | _ => exact ff h
  | .band es, X, g, e, h => by
    cases e with
    | BoolOp o ls pos =>
      cases o with
      | And =>
        simp only [ckE, Bool.and_eq_true] at h
        obtain ⟨_, _, _, _, p, q, _⟩ := soundEs es X g ls h.1
        refine ⟨((p pos).1).wk fun σ H Q q => ?_, fun _ => ((q h.2 pos).1).pt.wk fun σ H Q q => tvT_map ?_⟩
        · obtain ⟨Fr, M, G, ρ, μ, r, μ', s, rr, e, q⟩ := q
          exact ⟨Fr, M, G, ρ, μ, r, μ', s, rr, by simpa only [evE] using e, q⟩
        · obtain ⟨Fr, M, G, ρ, μ, r, μ', s, rr, e, q⟩ := q
          exact ⟨Fr, M, G, ρ, μ, r, μ', s, rr, by simpa only [evE] using e, q⟩
      | _ => exact ff h
    | _ => exact ff h
  | .bor es, X, g, e, h => by
    cases e with
    | BoolOp o ls pos =>
      cases o with
      | Or =>
        simp only [ckE, Bool.and_eq_true] at h
        obtain ⟨_, _, _, _, p, q, _⟩ := soundEs es X g ls h.1
        refine ⟨((p pos).2).wk fun σ H Q q => ?_, fun _ => ((q h.2 pos).2).pt.wk fun σ H Q q => tvT_map ?_⟩
        · obtain ⟨Fr, M, G, ρ, μ, r, μ', s, rr, e, q⟩ := q
          exact ⟨Fr, M, G, ρ, μ, r, μ', s, rr, by simpa only [evE] using e, q⟩
        · obtain ⟨Fr, M, G, ρ, μ, r, μ', s, rr, e, q⟩ := q
          exact ⟨Fr, M, G, ρ, μ, r, μ', s, rr, by simpa only [evE] using e, q⟩
      | _ => exact ff h
    | _ => exact ff h
  | .ite d a b, X, g, e, h => by
    cases e with
    | IfExp d' a' b' pos =>
      simp only [ckE, Bool.and_eq_true] at h
      exact ⟨snd_ite ((soundE d X g d' h.1.1.1).2 h.1.1.2) (soundE a X g a' h.1.2).1 (soundE b X g b' h.2).1, fun z => ff z⟩
    | _ => exact ff h
  | .idx a i, X, g, e, h => by
    cases e with
    | Subscript a' i' pos =>
      simp only [ckE, Bool.and_eq_true] at h
      have p := snd_idx (pos := pos) (soundE a X g a' h.1).1 (soundE i X g i' h.2).1 (ck_plain h.2)
      exact ⟨p, fun _ => pt_tv p rfl⟩
    | _ => exact ff h
  | .sli a lo hi, X, g, e, h => by
    cases e with
    | Subscript a' i' pos =>
      cases i' with
      | Slice lo' hi' st p =>
        cases st with
        | none =>
          simp only [ckE, Bool.and_eq_true] at h
          have p := snd_sli (pos := pos) (p := p) (soundE a X g a' h.1.1).1 (soundO lo X g lo' h.1.2) (soundO hi X g hi' h.2)
          exact ⟨p, fun _ => pt_tv p rfl⟩
        | some _ => exact ff h
      | _ => exact ff h
    | _ => exact ff h
  | .isi a t, X, g, e, h => by
    cases e with
    | Call f as ks pos =>
      cases f with
      | Name x p =>
        match as, h with
        | [a', b'], h =>
          cases ks with
          | nil =>
            simp only [ckE, Bool.and_eq_true, decide_eq_true_eq] at h
            obtain ⟨⟨⟨h1, rfl⟩, h2⟩, h3⟩ := h
            obtain ⟨p2, rfl, h4⟩ := isNm_of h2
            have p := snd_isi (p := p) (p2 := p2) (pos := pos) g h1 h4 (soundE a X g a' h3).1 (ck_plain h3)
            exact ⟨p, fun _ => pt_tv p rfl⟩
          | cons _ _ => exact ff h
        | [], h => exact ff h
        | [_], h => exact ff h
        | _ :: _ :: _ :: _, h => exact ff h
      | _ => exact ff h
    | _ => exact ff h
  | .call f es, X, g, e, h => by
    cases e with
    | Call x ls ks pos =>
      cases x with
      | Name x p =>
        cases ks with
        | nil =>
          simp only [ckE, Bool.and_eq_true, decide_eq_true_eq] at h
          obtain ⟨_, q1, q2, q3, _⟩ := soundEs es X g ls h.2
          have p := snd_call (p := p) (pos := pos) g h.1.1.1 h.1.1.2 h.1.2 q1 q2 q3
          exact ⟨p, fun _ => pt_tv p rfl⟩
        | cons _ _ => exact ff h
      | _ => exact ff h
    | _ => exact ff h
  | .callM f es, X, g, e, h => by
    cases e with
    | Call x ls ks pos =>
      cases x with
      | Name x p =>
        cases ks with
        | nil =>
          simp only [ckE, Bool.and_eq_true, decide_eq_true_eq] at h
          obtain ⟨_, q1, q2, q3, _⟩ := soundEs es X g ls h.2
          have p := (snd_callM (p := p) (pos := pos) g h.1.1 h.1.2 q1 q2 q3).wk fun σ H Q q => tvN_tv callM_list q
          exact ⟨p, fun _ => pt_tv p rfl⟩
        | cons _ _ => exact ff h
      | _ => exact ff h
    | _ => exact ff h
  | .bi b a, X, g, e, h => by
    cases e with
    | Call x ls ks pos =>
      cases x with
      | Name x p =>
        match ls, h with
        | [a'], h =>
          cases ks with
          | nil =>
            simp only [ckE, Bool.and_eq_true, decide_eq_true_eq] at h
            obtain ⟨⟨h1, rfl⟩, h2⟩ := h
            have p := snd_bi (p := p) (pos := pos) g h1 (soundE a X g a' h2).1 (ck_plain h2)
            exact ⟨p, fun _ => pt_tv p rfl⟩
          | cons _ _ => exact ff h
        | [], h => exact ff h
        | _ :: _ :: _, h => exact ff h
      | _ => exact ff h
    | _ => exact ff h
  | .comp own tg it cs elt, X, g, e, h => by
    cases e with
    | ListComp elt' gs scope pos =>
      cases gs with
      | nil => exact ff h
      | cons g1 gs =>
       obtain ⟨tg', it', ifs', as⟩ := g1
       cases gs with
       | cons _ _ => exact ff h
       | nil =>
        simp only [ckE, Bool.and_eq_true, List.all_eq_true, decide_eq_true_eq] at h
        obtain ⟨⟨⟨⟨⟨⟨⟨⟨rfl, h1⟩, h2⟩, h3⟩, h4⟩, h5⟩, h6⟩, h7⟩, h8⟩ := h
        obtain ⟨pi, pp⟩ := soundI it X g tg' it' h4
        have q := snd_comp (pos := pos) g pi pp (by rw [g.N]; exact h1) h3
          (fun s H A cl fp => ckTg_pg (X := X.blk s H scope (compEnvC scope cl A X.env) fp) h5 g.N g.nd g.calm fun x hx => hx)
          (fun s H A cl fp => (soundEs cs _ (g.blk s H scope (compEnvC scope cl A X.env) fp) ifs' h6).2.2.2.2.2.2 h7)
          (fun s H A cl fp => (soundE elt _ (g.blk s H scope (compEnvC scope cl A X.env) fp) elt' h8).1)
        have p := q.1.wk fun σ H Q q => tvN_tv comp_list q
        exact ⟨p, fun _ => pt_tv p rfl⟩
    | _ => exact ff h
  | .comp2 own tg it tg1 it1 cs elt, X, g, e, h => by
    cases e with
    | ListComp elt' gs scope pos =>
      cases gs with
      | nil => exact ff h
      | cons g1 gs =>
       obtain ⟨tg', it', ifs0, as⟩ := g1
       cases gs with
       | nil => cases ifs0 <;> exact ff h
       | cons g2 gs =>
       obtain ⟨tg1', it1', ifs', as1⟩ := g2
       cases ifs0 with
       | cons _ _ => exact ff h
       | nil =>
       cases gs with
       | cons _ _ => exact ff h
       | nil =>
        simp only [ckE, Bool.and_eq_true, List.all_eq_true, decide_eq_true_eq] at h
        obtain ⟨⟨⟨⟨⟨⟨⟨⟨⟨⟨⟨⟨rfl, rfl⟩, h1⟩, h2⟩, h3⟩, h3'⟩, h4⟩, h5⟩, h4'⟩, h5'⟩, h6⟩, h7⟩, h8⟩ := h
        obtain ⟨pi, pp⟩ := soundI it X g tg' it' h4
        have pp1 : plainX it1' = true := ckI_plain h4'
        have q := snd_comp2 (pos := pos) g pi pp pp1 (by rw [g.N]; exact h1) h3 h3'
          (fun s H A cl fp => ckTg_pg (X := X.blk s H scope (compEnvC scope cl A X.env) fp) h5 g.N g.nd g.calm fun x hx => hx)
          (fun s H A cl fp => (soundI it1 _ (g.blk s H scope (compEnvC scope cl A X.env) fp) tg1' it1' h4').1)
          (fun s H A cl fp => ckTg_pg (X := X.blk s H scope (compEnvC scope cl A X.env) fp) h5' g.N g.nd g.calm fun x hx => hx)
          (fun s H A cl fp => (soundEs cs _ (g.blk s H scope (compEnvC scope cl A X.env) fp) ifs' h6).2.2.2.2.2.2 h7)
          (fun s H A cl fp => (soundE elt _ (g.blk s H scope (compEnvC scope cl A X.env) fp) elt' h8).1)
        have p := q.1.wk fun σ H Q q => tvN_tv comp2_list q
        exact ⟨p, fun _ => pt_tv p rfl⟩
    | _ => exact ff h
theorem soundEs : ∀ (es : Es) (X : Cx) (g : Good X c C k F) (ls : List Expr), ckEs c X.env.scope es ls = true → PA X ls (tvA X.K (evEs C F es)) ∧ PA X ls (tvV X.K (evVs C F es)) ∧ (∀ e ∈ ls, plainX e = true) ∧ es.len = ls.length ∧
    (∀ pos, PE X (.BoolOp .And ls pos) (tv X.K fun ρ μ => (evAnd C F es ρ μ).map fun (b, μ1) => (.d (.bool b), μ1)) ∧ PE X (.BoolOp .Or ls pos) (tv X.K fun ρ μ => (evOr C F es ρ μ).map fun (b, μ1) => (.d (.bool b), μ1))) ∧
    (es.tOk = true → ∀ pos, PW X (.BoolOp .And ls pos) (tvT X.K (evAnd C F es)) ∧ PW X (.BoolOp .Or ls pos) (tvT X.K (evOr C F es))) ∧
    (es.tOk = true → PTs X ls (tvT X.K (evCs C F es)))
  | .nil, X, g, ls, h => by
    cases ls with
    | nil =>
      refine ⟨snd_es_nil, snd_vs_nil, fun _ z => (nomatch z), rfl, fun pos => ⟨vacE fun _ _ => by simp only [evAnd]; rfl, vacE fun _ _ => by simp only [evOr]; rfl⟩, fun _ pos => ⟨vacW fun _ _ => by simp only [evAnd], vacW fun _ _ => by simp only [evOr]⟩, fun _ => pts_nil.wk fun σ H Q q => ?_⟩
      obtain ⟨Fr, M, G, ρ, μ, r, μ', s, rr, e, q⟩ := q
      simp only [evCs] at e
      cases e
      exact q H G (Le.rfl' _) s rfl
    | cons _ _ => exact ff h
  | .cons m es, X, g, ls, h => by
    cases ls with
    | nil => exact ff h
    | cons l ls =>
      simp only [ckEs, Bool.and_eq_true] at h
      obtain ⟨p1, p2⟩ := soundE m X g l h.1
      obtain ⟨q1, q2, q3, q4, q5, q6, q7⟩ := soundEs es X g ls h.2
      have pl := ck_plain h.1
      refine ⟨snd_es_cons p1 pl q1, snd_vs_cons p1 pl q2, fun e he => (List.mem_cons.mp he).elim (fun z => z ▸ pl) (q3 e), by simp only [Es.len, q4, List.length_cons], fun pos => ?_, fun ht pos => ?_, fun ht => ?_⟩
      · cases es with
        | nil =>
          cases ls with
          | nil => exact ⟨snd_and1 p1, snd_or1 p1⟩
          | cons _ _ => exact ff h.2
        | cons m2 es =>
          cases ls with
          | nil => exact ff h.2
          | cons l2 ls => exact ⟨snd_and2 p1 (q5 pos).1, snd_or2 p1 (q5 pos).2⟩
      · simp only [Es.tOk, Bool.and_eq_true] at ht
        cases es with
        | nil =>
          cases ls with
          | nil => exact ⟨tst_and1 (p2 ht.1), tst_or1 (p2 ht.1)⟩
          | cons _ _ => exact ff h.2
        | cons m2 es =>
          cases ls with
          | nil => exact ff h.2
          | cons l2 ls => exact ⟨tst_and2 (p2 ht.1) (q6 ht.2 pos).1, tst_or2 (p2 ht.1) (q6 ht.2 pos).2⟩
      · simp only [Es.tOk, Bool.and_eq_true] at ht
        cases es with
        | nil =>
          cases ls with
          | nil =>
            refine (pts_one (p2 ht.1)).wk fun σ H Q q => ?_
            obtain ⟨Fr, M, G, ρ, μ, r, μ', s, rr, e, q⟩ := q
            simp only [evCs] at e
            exact ⟨Fr, M, G, ρ, μ, r, μ', s, rr, e, q⟩
          | cons _ _ => exact ff h.2
        | cons m2 es => exact vacTs fun _ _ => by simp only [evCs]
theorem soundO : ∀ (o : Oe) (X : Cx) (g : Good X c C k F) (e : Option Expr), ckO c X.env.scope o e = true → PO X e (tvO X.K (evO C F o))
  | .no, X, g, e, h => by
    cases e with
    | none => exact snd_oe_no
    | some _ => exact ff h
  | .so m, X, g, e, h => by
    cases e with
    | none => exact ff h
    | some e =>
      simp only [ckO] at h
      exact snd_oe_so (soundE m X g e h).1
theorem soundI : ∀ (it : It) (X : Cx) (g : Good X c C k F) (tg e : Expr), ckI c X.env.scope it e = true → PI X tg e (tvI X.K (evI C F it)) ∧ plainX e = true
  | .seq m, X, g, tg, e, h => by
    simp only [ckI] at h
    exact ⟨snd_seq (soundE m X g e h).1, ck_plain h⟩
  | .rng m, X, g, tg, e, h => by
    cases e with
    | Call x ls ks pos =>
      cases x with
      | Name x p =>
        match ls, h with
        | [a'], h =>
          cases ks with
          | nil =>
            simp only [ckI, Bool.and_eq_true, decide_eq_true_eq] at h
            obtain ⟨⟨h1, rfl⟩, h2⟩ := h
            exact ⟨snd_rng g h1 (soundE m X g a' h2).1 (ck_plain h2), rfl⟩
          | cons _ _ => exact ff h
        | [], h => exact ff h
        | _ :: _ :: _, h => exact ff h
      | _ => exact ff h
    | _ => exact ff h
  | .rng2 m m', X, g, tg, e, h => by
    cases e with
    | Call x ls ks pos =>
      cases x with
      | Name x p =>
        match ls, h with
        | [a', b'], h =>
          cases ks with
          | nil =>
            simp only [ckI, Bool.and_eq_true, decide_eq_true_eq] at h
            obtain ⟨⟨⟨h1, rfl⟩, h2⟩, h3⟩ := h
            exact ⟨snd_rng2 g h1 (soundE m X g a' h2).1 (soundE m' X g b' h3).1 (ck_plain h2) (ck_plain h3), rfl⟩
          | cons _ _ => exact ff h
        | [], h => exact ff h
        | [_], h => exact ff h
        | _ :: _ :: _ :: _, h => exact ff h
      | _ => exact ff h
    | _ => exact ff h
end
end Mu

namespace Mu
open PySem PySem.Spec
open PyProof.Rows L2
variable {c : Sc} {C : Cons} {k : Nat} {F : Calls}

/-! ### statements: the check -/
def isComp : Expr → Bool
  | .ListComp .. => true
  | .SetComp .. => true
  | .DictComp .. => true
  | _ => false
def compB (sc : Scope) (x : Str) (py : Pos) : Expr → Bool
  | .ListComp _ _ scope pos => decide (sc.names.lookup x = some .local) && (py.line == pos.line) && !(scope.names.any fun (n, k) => n == x && (k == .local || k == .cell))
  | _ => false
/-- expressions that make a new list -/
def isNew : E → Bool
  | .lst _ => true
  | .rep _ _ => true
  | .comp .. => true
  | .comp2 .. => true
  | .bi .lst _ => true
  | .callM .. => true
  | _ => false
def notTup : Expr → Bool
  | .Tuple .. => false
  | e => !isComp e
def nmE : Expr → Option (Str × Pos)
  | .Name x p => some (x, p)
  | _ => none
theorem nmE_of {e : Expr} {y : Str × Pos} (h : nmE e = some y) : e = .Name y.1 y.2 := by
  cases e <;> first | (cases h; rfl) | cases h
def one {α : Type} (f : Expr → Option α) : List Expr → Option α
  | [e] => f e
  | _ => none
theorem one_of {α : Type} {f : Expr → Option α} {ts : List Expr} {y : α} (h : one f ts = some y) : ∃ e, ts = [e] ∧ f e = some y := by
  match ts, h with
  | [e], h => exact ⟨e, rfl, h⟩
def tpE : Expr → Option (List Expr × Nat × Pos)
  | .Tuple l k p => some (l, k, p)
  | _ => none
theorem tpE_of {e : Expr} {y : List Expr × Nat × Pos} (h : tpE e = some y) : e = .Tuple y.1 y.2.1 y.2.2 := by
  cases e <;> first | (cases h; rfl) | cases h
def subE : Expr → Option (Expr × Expr × Pos)
  | .Subscript a i p => some (a, i, p)
  | _ => none
theorem subE_of {e : Expr} {y : Expr × Expr × Pos} (h : subE e = some y) : e = .Subscript y.1 y.2.1 y.2.2 := by
  cases e <;> first | (cases h; rfl) | cases h
def two {α : Type} (f : Expr → Option α) : List Expr → Option (α × α)
  | [d, e] => (f d).bind fun x => (f e).map fun y => (x, y)
  | _ => none
theorem two_of {α : Type} {f : Expr → Option α} {ts : List Expr} {y : α × α} (h : two f ts = some y) : ∃ d e, ts = [d, e] ∧ f d = some y.1 ∧ f e = some y.2 := by
  match ts, h with
  | [d, e], h =>
    obtain ⟨a, h1, h⟩ := Option.bind_eq_some_iff.mp h
    obtain ⟨b, h2, h⟩ := Option.map_eq_some_iff.mp h
    cases h
    exact ⟨d, e, rfl, h1, h2⟩
def appE : Expr → Option ((Str × Pos) × Str × Pos × Expr × Pos)
  | .Call (.Attribute o y ap) [v] [] pos => (nmE o).map fun x => (x, y, ap, v, pos)
  | _ => none
theorem appE_of {e : Expr} {z : (Str × Pos) × Str × Pos × Expr × Pos} (h : appE e = some z) : e = .Call (.Attribute (.Name z.1.1 z.1.2) z.2.1 z.2.2.1) [z.2.2.2.1] [] z.2.2.2.2 := by
  unfold appE at h
  split at h
  · obtain ⟨a, h1, h⟩ := Option.map_eq_some_iff.mp h
    cases h
    rw [nmE_of h1]
  · cases h
def okO {α : Type} (o : Option α) (f : α → Bool) : Bool := match o with
  | some x => f x
  | none => false
theorem okO_of {α : Type} {o : Option α} {f : α → Bool} (h : okO o f = true) : ∃ x, o = some x ∧ f x = true := by
  cases o with
  | none => cases h
  | some x => exact ⟨x, rfl, h⟩
def addSub : BOp → Bool
  | .add => true
  | .sub => true
  | _ => false
mutual
def ckS (c : Sc) (sc : Scope) : S → Stmt → Bool
  | .set i e, .Assign ts v pos => okO (one nmE ts) fun (x, py) => decide (c.N[i]? = some x) && locB sc x && ckE c sc e v && (!isComp v || compB sc x py v)
  | .setM i e, .Assign ts v pos => okO (one nmE ts) fun (x, py) => decide (c.N[i]? = some x) && locB sc x && ckE c sc e v && isNew e && (!isComp v || compB sc x py v)
  | .unp is e, .Assign ts v _ => okO (one tpE ts) fun (l, _) => ckNms c.N sc (fun _ => true) is l && ckE c sc e v && notTup v
  | .aug i o e, .AugAssign t o' v _ => okO (nmE t) fun (x, _) => decide (c.N[i]? = some x) && locB sc x && addSub o && decide (o.op = o') && ckE c sc e v
  | .ret e, .Return v _ => okO v fun v => ckE c sc e v
  | .retN, .Return v _ => v.isNone
  | .retM e, .Return v _ => okO v fun v => ckE c sc e v && isNew e
  | .drop e, .Expr v _ => ckE c sc e v && !isComp v
  | .app a e, .Expr v _ => okO (appE v) fun ((x, xp), y, ap, v, pos) => decide (y = ("append" : Str)) && (ap.endLine == pos.line) && ckE c sc a (.Name x xp) && ckE c sc e v
  | .put a i e, .Assign ts v _ => okO (one subE ts) fun (a', i', _) => ckE c sc a a' && ckE c sc i i' && ckE c sc e v && !isComp v
  | .put2 a i b j e d, .Assign ts v _ => okO (one tpE ts) fun (l, _) => okO (two subE l) fun ((a', i', _), (b', j', _)) => okO (tpE v) fun (l2, _) => okO (two some l2) fun (e', d') => ckE c sc a a' && ckE c sc i i' && ckE c sc b b' && ckE c sc j j' && ckE c sc e e' && ckE c sc d d'
  | .ife d a b, .If d' a' b' _ => ckE c sc d d' && tOk d && ckSs c sc a a' && ckSs c sc b b'
  | .whl d b, .While d' b' el _ => ckE c sc d d' && tOk d && ckSs c sc b b' && el.isEmpty
  | .for_ tg it b, .For tg' it' b' el _ => ckTg c.N sc (fun _ => true) tg tg' && ckI c sc it it' && ckSs c sc b b' && el.isEmpty
  | .brk, .Break _ => true
  | .cnt, .Continue _ => true
  | .pass, .Pass _ => true
  | _, _ => false
def ckSs (c : Sc) (sc : Scope) : List S → List Stmt → Bool
  | [], [] => true
  | s :: ss, t :: ts => ckS c sc s t && ckSs c sc ss ts
  | _, _ => false
end

/-! ### the state of a def's body -/
def Bd (ρ : Rho) (n : Nat) : Prop := ∀ i j : Nat, ρ[i]? = some (some (.p j)) → j < n
structure At (K : PySem.W.Frag) (Fr : Hp) (M : Nat → Addr) (G H : Hp) (μ : Store) (ρ : Rho) (σ : L2.St) : Prop where
  ss : SS K Fr M G H μ
  rr : RR K M G ρ σ
  bd : Bd ρ μ.length
def Xt (M : Nat → Addr) (n : Nat) (M' : Nat → Addr) (n' : Nat) : Prop := (∀ i, i < n → M' i = M i) ∧ n ≤ n'
theorem Xt.rf (M : Nat → Addr) (n : Nat) : Xt M n M n := ⟨fun _ _ => rfl, Nat.le_refl _⟩
theorem Xt.tr {M M1 M2 : Nat → Addr} {n n1 n2 : Nat} (a : Xt M n M1 n1) (b : Xt M1 n1 M2 n2) : Xt M n M2 n2 :=
  ⟨fun i h => (b.1 i (Nat.lt_of_lt_of_le h a.2)).trans (a.1 i h), Nat.le_trans a.2 b.2⟩
theorem Xt.eq (M : Nat → Addr) {n n' : Nat} (h : n' = n) : Xt M n M n' := ⟨fun _ _ => rfl, by omega⟩
theorem Bd.set {ρ : Rho} {n : Nat} {i : Nat} {v : Val} {μ : Store} (h : Bd ρ n) (hv : bdV μ v = true) (hn : n = μ.length) : Bd (ρ.set i (some v)) n := fun a j e => by
  by_cases q : i = a
  · subst q
    rw [List.getElem?_set] at e
    split at e
    · split at e
      · cases e
        simp only [bdV, decide_eq_true_eq] at hv
        omega
      · cases e
    · exact h _ j e
  · rw [List.getElem?_set_ne q] at e
    exact h a j e
theorem Bd.le {ρ : Rho} {n m : Nat} (h : Bd ρ n) (l : n ≤ m) : Bd ρ m := fun i j e => Nat.lt_of_lt_of_le (h i j e) l
theorem bdV_d (μ : Store) (x : D) : bdV μ (.d x) = true := rfl
theorem Bd.setAll : ∀ {is : List Nat} {ds : List D} {ρ ρ1 : Rho} {n : Nat}, Bd ρ n → Mu.setAll ρ is ds = some ρ1 → Bd ρ1 n
  | [], [], ρ, ρ1, n, h, e => by simp only [Mu.setAll, Option.some.injEq] at e; subst e; exact h
  | [], _ :: _, _, _, _, _, e => by simp [Mu.setAll] at e
  | _ :: _, [], _, _, _, _, e => by simp [Mu.setAll] at e
  | i :: is, d :: ds, ρ, ρ1, n, h, e => by
    simp only [Mu.setAll] at e
    exact Bd.setAll (h.set (μ := List.replicate n none) (bdV_d _ d) (by simp)) e
theorem Bd.tg {tg : Tg} {d : D} {ρ ρ1 : Rho} {n : Nat} (h : Bd ρ n) (e : tgS ρ tg d = some ρ1) : Bd ρ1 n := by
  cases tg with
  | nm i => simp only [tgS, Option.some.injEq] at e; subst e; exact h.set (μ := List.replicate n none) (bdV_d _ d) (by simp)
  | tp is =>
    cases d with
    | tuple xs => exact Bd.setAll h e
    | _ => simp [tgS] at e
theorem RR.reM {K : PySem.W.Frag} {M M' : Nat → Addr} {G : Hp} {ρ : Rho} {σ : L2.St} {n : Nat} (h : RR K M G ρ σ) (b : Bd ρ n) (e : ∀ i, i < n → M' i = M i) : RR K M' G ρ σ := by
  refine ⟨h.len, fun i w q => ?_⟩
  obtain ⟨v, a, r⟩ := h.at_ i w q
  refine ⟨v, a, ?_⟩
  cases r with
  | d r => exact .d r
  | p j => rw [← e j (b i j q)]; exact .p j

abbrev SF := Rho → Store → Option (Flow × RS)
def EndsOk (K : PySem.W.Frag) (M : Nat → Addr) (G : Hp) (Dn : Ends) (fl : Flow) (σ : L2.St) (H : Hp) : Prop :=
  match fl with
  | .nx => Dn.nx σ H
  | .bk => Dn.bk σ H
  | .ct => Dn.ct σ H
  | .ret w => ∀ v, RV K M G v w → Dn.rt v H
def tvS (K : PySem.W.Frag) (f : SF) : TS := fun Dn σ H => ∃ (Fr : Hp) (M : Nat → Addr) (G : Hp) (ρ : Rho) (μ : Store) (fl : Flow) (ρ' : Rho) (μ' : Store), At K Fr M G H μ ρ σ ∧ f ρ μ = some (fl, ρ', μ') ∧
  ∀ σ' H' G' M', Le G G' → At K Fr M' G' H' μ' ρ' σ' → Xt M μ.length M' μ'.length → EndsOk K M' G' Dn fl σ' H'
variable {X : Cx}
theorem _root_.L2.PS.wk {st : Stmt} {t t' : TS} (h : PS X st t) (w : ∀ Dn σ H, t' Dn σ H → t Dn σ H) : PS X st t' := ⟨fun pins s σ H Dn I q => h.run pins s σ H Dn I (w Dn σ H q)⟩
theorem _root_.L2.PSs.wk {st : List Stmt} {t t' : TS} (h : PSs X st t) (w : ∀ Dn σ H, t' Dn σ H → t Dn σ H) : PSs X st t' := ⟨fun pins s σ H Dn I q => h.run pins s σ H Dn I (w Dn σ H q)⟩
theorem loc_of {sc : Scope} {x : Str} (h : locB sc x = true) : L2.Loc sc x := by
  simp only [locB, Bool.or_eq_true, decide_eq_true_eq] at h
  exact h
theorem swaps_no {e : Expr} {t : Option Expr} {l : Nat} {env : Env} (h : isComp e = false) : swapsWith e t l env = pure false := by
  cases e <;> first | rfl | cases h
structure Body (X : Cx) (c : Sc) (C : Cons) (k : Nat) (F : Calls) : Prop extends Good X c C k F where
  fn : ∀ x, X.fn x = true
  pown : PassesOwn (model X.prog X.w) X.A X.env X.xe
  knd : X.env.scope.kind = .function
theorem Body.fnl (b : Body X c C k F) (x : Str) : X.fn x = true ∨ X.env.scope.names.lookup x = some .local := .inl (b.fn x)

theorem s_set_go {i : Nat} {m : E} {Dn : Ends} {σ : L2.St} {H : Hp} (q : tvS X.K (evS C F (.set i m)) Dn σ H) : tAsg (tv X.K (evE C F m)) (gName i) Dn σ H := by
  obtain ⟨Fr, M, G, ρ, μ, fl, ρ', μ', a, e, q⟩ := q
  simp only [evS] at e
  obtain ⟨⟨v, μ1⟩, e1, e⟩ := bnd e
  split at e
  · rename_i hb
    cases e
    exact tv_go a.ss a.rr e1 fun x H1 G1 l1 s1 n1 r1 => q (σ.set i (some x)) H1 G1 M l1 ⟨s1, (a.rr.mono l1).set r1, by rw [n1]; exact a.bd.set hb n1.symm⟩ (.eq M n1)
  · cases e
theorem s_set (b : Body X c C k F) {i : Nat} {x : Str} {m : E} {v : Expr} {py pos : Pos} (hN : c.N[i]? = some x) (hl : locB X.env.scope x = true) (h : PE X v (tv X.K (evE C F m))) (hc : isComp v = false) : PS X (.Assign [.Name x py] v pos) (tvS X.K (evS C F (.set i m))) :=
  (ps_set b.nd (by rw [b.N]; exact hN) (loc_of hl) h (swaps_no hc) (b.fnl x)).wk fun _ _ _ q => s_set_go q
theorem s_setM_go {i : Nat} {m : E} {Dn : Ends} {σ : L2.St} {H : Hp} (q : tvS X.K (evS C F (.setM i m)) Dn σ H) : tAsg (tvN X.K (evE C F m)) (gName i) Dn σ H := by
  obtain ⟨Fr, M, G, ρ, μ, fl, ρ', μ', a, e, q⟩ := q
  simp only [evS] at e
  obtain ⟨⟨v, μ1⟩, e1, e⟩ := bnd e
  dsimp only at e
  split at e
  · rename_i xs
    cases e
    refine ⟨Fr, M, G, ρ, μ, xs, μ1, a.ss, a.rr, e1, fun p vs H1 G1 l1 s1 n1 hp gp fp mp r1 z => ?_⟩
    have em : ∀ j, j < μ1.length → (fun j => if j = μ1.length then p else M j) j = M j := fun j hj => if_neg (Nat.ne_of_lt hj)
    have bd1 : Bd ρ μ1.length := by rw [n1]; exact a.bd
    have rr1 : RR X.K (fun j => if j = μ1.length then p else M j) G1 ρ σ := (a.rr.mono l1).reM bd1 em
    have rv : RV X.K (fun j => if j = μ1.length then p else M j) G1 (.ref p) (.p μ1.length) := by
      have := RV.p (K := X.K) (M := fun j => if j = μ1.length then p else M j) (G := G1) μ1.length
      simpa using this
    refine q (σ.set i (some (.ref p))) H1 G1 _ l1 ⟨s1.thaw hp gp mp fp r1 z, rr1.set rv, ?_⟩ ⟨fun j hj => em j (by omega), by simp; omega⟩
    refine Bd.set (μ := μ1 ++ [some xs]) (bd1.le (by simp)) ?_ rfl
    simp [bdV]
  · cases e
theorem s_setM (b : Body X c C k F) {i : Nat} {x : Str} {m : E} {v : Expr} {py pos : Pos} (hN : c.N[i]? = some x) (hl : locB X.env.scope x = true) (h : PE X v (tvN X.K (evE C F m))) (hc : isComp v = false) : PS X (.Assign [.Name x py] v pos) (tvS X.K (evS C F (.setM i m))) :=
  (ps_set b.nd (by rw [b.N]; exact hN) (loc_of hl) h (swaps_no hc) (b.fnl x)).wk fun _ _ _ q => s_setM_go q
theorem s_unp (b : Body X c C k F) {is : List Nat} {m : E} {ts : List Expr} {v : Expr} {j : Nat} {p pos : Pos} (ht : ckNms c.N X.env.scope (fun _ => true) is ts = true) (h : PE X v (tv X.K (evE C F m))) (hv : notTup v = true) : PS X (.Assign [.Tuple ts j p] v pos) (tvS X.K (evS C F (.unp is m))) := by
  have pg : PG X (.Tuple ts j p) (gOf X.K (.tp is)) := ckTg_pg (tg := .tp is) (e := .Tuple ts j p) ht b.N b.nd b.calm fun x _ => b.fn x
  refine (ps_asg h pg (by cases v <;> first | rfl | cases hv) (by cases v <;> first | rfl | cases hv) rfl).wk fun Dn σ H q => ?_
  obtain ⟨Fr, M, G, ρ, μ, fl, ρ', μ', a, e, q⟩ := q
  simp only [evS] at e
  obtain ⟨⟨w, μ1⟩, e1, e⟩ := bnd e
  dsimp only at e
  split at e
  · rename_i d
    obtain ⟨ρ1, e2, e⟩ := bnd e
    cases e
    refine tv_go a.ss a.rr e1 fun x H1 G1 l1 s1 n1 r1 => ?_
    cases r1 with
    | d r1 =>
      refine tg_go s1 (a.rr.mono l1) r1 e2 fun σ1 rr1 _ => q σ1 H1 G1 M l1 ⟨s1, rr1, by rw [n1]; exact a.bd.tg e2⟩ (.eq M n1)
  · cases e
theorem s_aug (b : Body X c C k F) {i : Nat} {x : Str} {m : E} {o : BOp} {v : Expr} {p pos : Pos} (ho : addSub o = true) (hN : c.N[i]? = some x) (hl : locB X.env.scope x = true) (h : PE X v (tv X.K (evE C F m))) :
    PS X (.AugAssign (.Name x p) o.op v pos) (tvS X.K (evS C F (.aug i o m))) := by
  have pip : PIp X o.op (fun x y H Q => ∃ i j z, x = .int i ∧ y = .int j ∧ bopD o (.int i) (.int j) = some (.int z) ∧ Q (.int z) H) := by
    intro pins s σ H x y v u Q I rx ry h
    obtain ⟨i, j, z, rfl, rfl, e, q⟩ := h
    cases o with
    | add => simp only [bopD, Option.some.injEq, PyData.int.injEq] at e; subst e; exact iop_add pins s σ H _ _ v u Q I rx ry ⟨i, j, rfl, rfl, q⟩
    | sub => simp only [bopD, Option.some.injEq, PyData.int.injEq] at e; subst e; exact iop_sub pins s σ H _ _ v u Q I rx ry ⟨i, j, rfl, rfl, q⟩
    | _ => cases ho
  refine (ps_aug b.nd (by rw [b.N]; exact hN) (loc_of hl) h pip (b.fnl x)).wk fun Dn σ H q => ?_
  obtain ⟨Fr, M, G, ρ, μ, fl, ρ', μ', a, e, q⟩ := q
  simp only [evS] at e
  split at e
  · rename_i x0 hw
    obtain ⟨⟨y, μ1⟩, e1, e⟩ := bnd e
    dsimp only at e
    split at e
    · rename_i z hz
      cases e
      obtain ⟨u, hu, ru⟩ := a.rr.at_ i _ hw
      cases ru with
      | d ru =>
        cases ru
        refine ⟨_, hu, tv_go a.ss a.rr (toI_some e1) fun x H1 G1 l1 s1 n1 r1 => ?_⟩
        cases r1 with
        | d r1 =>
          cases r1
          exact ⟨x0, y, z, rfl, rfl, hz, q _ H1 G1 M l1 ⟨s1, (a.rr.mono l1).set (.d (.int _)), by rw [n1]; exact a.bd.set (bdV_d μ _) rfl⟩ (.eq M n1)⟩
    · cases e
  · cases e
theorem s_ret {m : E} {v : Expr} {pos : Pos} (h : PE X v (tv X.K (evE C F m))) : PS X (.Return (some v) pos) (tvS X.K (evS C F (.ret m))) := by
  refine (ps_ret h).wk fun Dn σ H q => ?_
  obtain ⟨Fr, M, G, ρ, μ, fl, ρ', μ', a, e, q⟩ := q
  simp only [evS] at e
  obtain ⟨⟨w, μ1⟩, e1, e⟩ := bnd e
  cases e
  exact tv_go a.ss a.rr e1 fun x H1 G1 l1 s1 n1 r1 => q σ H1 G1 M l1 ⟨s1, a.rr.mono l1, by rw [n1]; exact a.bd⟩ (.eq M n1) x r1
theorem s_retM {m : E} {v : Expr} {pos : Pos} (h : PE X v (tvN X.K (evE C F m))) : PS X (.Return (some v) pos) (tvS X.K (evS C F (.retM m))) := by
  refine (ps_ret h).wk fun Dn σ H q => ?_
  obtain ⟨Fr, M, G, ρ, μ, fl, ρ', μ', a, e, q⟩ := q
  simp only [evS] at e
  obtain ⟨⟨v, μ1⟩, e1, e⟩ := bnd e
  dsimp only at e
  split at e
  · rename_i xs
    cases e
    refine ⟨Fr, M, G, ρ, μ, xs, μ1, a.ss, a.rr, e1, fun p vs H1 G1 l1 s1 n1 hp gp fp mp r1 z => ?_⟩
    have em : ∀ j, j < μ1.length → (fun j => if j = μ1.length then p else M j) j = M j := fun j hj => if_neg (Nat.ne_of_lt hj)
    have bd1 : Bd ρ μ1.length := by rw [n1]; exact a.bd
    have rr1 : RR X.K (fun j => if j = μ1.length then p else M j) G1 ρ σ := (a.rr.mono l1).reM bd1 em
    have rv : RV X.K (fun j => if j = μ1.length then p else M j) G1 (.ref p) (.p μ1.length) := by
      have := RV.p (K := X.K) (M := fun j => if j = μ1.length then p else M j) (G := G1) μ1.length
      simpa using this
    exact q σ H1 G1 _ l1 ⟨s1.thaw hp gp mp fp r1 z, rr1, bd1.le (by simp)⟩ ⟨fun j hj => em j (by omega), by simp; omega⟩ _ rv
  · cases e
theorem s_retN {pos : Pos} : PS X (.Return none pos) (tvS X.K (evS C F .retN)) := by
  refine PS.wk ps_retN fun Dn σ H q => ?_
  obtain ⟨Fr, M, G, ρ, μ, fl, ρ', μ', a, e, q⟩ := q
  simp only [evS] at e
  cases e
  exact q σ H G M (Le.rfl' _) a (.rf _ _) _ (.d .non)
theorem s_drop {m : E} {v : Expr} {pos : Pos} (h : PE X v (tv X.K (evE C F m))) (hc : isComp v = false) : PS X (.Expr v pos) (tvS X.K (evS C F (.drop m))) := by
  refine (ps_expr h (swaps_no hc)).wk fun Dn σ H q => ?_
  obtain ⟨Fr, M, G, ρ, μ, fl, ρ', μ', a, e, q⟩ := q
  simp only [evS] at e
  obtain ⟨⟨w, μ1⟩, e1, e⟩ := bnd e
  cases e
  exact tv_go a.ss a.rr e1 fun x H1 G1 l1 s1 n1 r1 => q σ H1 G1 M l1 ⟨s1, a.rr.mono l1, by rw [n1]; exact a.bd⟩ (.eq M n1)
theorem SS.app {K : PySem.W.Frag} {Fr : Hp} {M : Nat → Addr} {G H : Hp} {μ μ3 : Store} {i : Nat} {y : D} {u : V} (s : SS K Fr M G H μ) (r : Rp K G u y) (e : appV μ (.p i) y = some μ3) :
    ∃ G', G' = G ∧ (∃ vs, H (M i) = some (.lst vs) ∧ vs.length < sizeLine ∧ SS K Fr M G (upd H (M i) (.lst (vs ++ [u]))) μ3) ∧ μ3.length = μ.length := by
  simp only [appV] at e
  split at e
  · rename_i xs hx
    split at e
    · rename_i hz
      cases e
      obtain ⟨vs, h1, h2, z3⟩ := s.cell i xs hx
      exact ⟨G, rfl, ⟨vs, h1, by rw [h2.length]; exact hz, s.put hx (h2.append (.cons r .nil)) (by simp; omega)⟩, by rw [List.length_set]⟩
    · cases e
  · cases e
theorem SS.putV {K : PySem.W.Frag} {Fr : Hp} {M : Nat → Addr} {G H : Hp} {μ μ3 : Store} {i : Nat} {y : D} {u : V} {k : Int} (s : SS K Fr M G H μ) (r : Rp K G u y) (e : Mu.putV μ (.p i) k y = some μ3) :
    (∃ vs j, H (M i) = some (.lst vs) ∧ ixN vs.length k = some j ∧ SS K Fr M G (upd H (M i) (.lst (vs.set j u))) μ3) ∧ μ3.length = μ.length := by
  simp only [Mu.putV] at e
  split at e
  · rename_i xs hx
    obtain ⟨m, e1, rfl⟩ := Option.map_eq_some_iff.mp e
    obtain ⟨vs, h1, h2, z3⟩ := s.cell i xs hx
    exact ⟨⟨vs, m, h1, by rw [h2.length]; exact e1, s.put hx (h2.set m r) (by rw [List.length_set]; exact z3)⟩, by rw [List.length_set]⟩
  · cases e
theorem s_app {x : Str} {ma m : E} {v : Expr} {xp ap pos p : Pos} (hl : (ap.endLine == pos.line) = true) (ha : PE X (.Name x xp) (tv X.K (evE C F ma))) (h : PE X v (tv X.K (evE C F m))) (pv : plainX v = true) :
    PS X (.Expr (.Call (.Attribute (.Name x xp) "append" ap) [v] [] pos) p) (tvS X.K (evS C F (.app ma m))) := by
  have hs : starEach [v] X.env = (false, eval v X.env) :: starEach [] X.env := star_of pv
  have p1 := pe_bm (apos := ap) (cpos := pos) PySem.F.plainAttrs_list PySem.F.slot_list_append PySem.F.type_list_append mt_append ha (pa_cons h pa_nil hs) rfl (by rw [hs]; rfl) hl hs rfl
  refine (ps_expr (pos := p) p1 rfl).wk fun Dn σ H q => ?_
  obtain ⟨Fr, M, G, ρ, μ, fl, ρ', μ', a, e, q⟩ := q
  simp only [evS] at e
  obtain ⟨⟨w, μ1⟩, e1, e⟩ := bnd e
  obtain ⟨x0, e0, e⟩ := bnd e
  obtain ⟨⟨y, μ2⟩, e2, e⟩ := bnd e
  obtain ⟨μ3, e4, e⟩ := Option.map_eq_some_iff.mp e
  cases e
  obtain ⟨⟨u, μ4⟩, e3, e5⟩ := bnd e2
  refine tv_go a.ss a.rr e1 fun z H1 G1 l1 s1 n1 r1 => ?_
  cases r1 with
  | d _ => cases e4
  | p i =>
    refine ⟨?_, tv_go s1 (a.rr.mono l1) e3 fun z2 H2 G2 l2 s2 n2 r2 => ?_⟩
    · have p0 := s1.rd (.p i) e0
      cases x0 with
      | list ds =>
        cases p0 with
        | lst p0 _ _ => exact .inl ⟨rfl, _, p0.sql⟩
      | _ => unfold deref at e0; simp only at e0; split at e0 <;> cases e0
    · obtain ⟨G3, l3, s3, r3, n3⟩ := s2.frzV r2 e5
      obtain ⟨_, _, ⟨vs, h1, hz, s5⟩, n4⟩ := s3.app r3 e4
      refine ⟨M i, vs, z2, rfl, rfl, h1, hz, ?_⟩
      exact q σ _ G3 M (l1.trans (l2.trans l3)) ⟨s5, a.rr.mono (l1.trans (l2.trans l3)), by rw [n4, n3, n2, n1]; exact a.bd⟩ (.eq M (by rw [n4, n3, n2, n1]))
end Mu

namespace Mu
open PySem PySem.Spec
open PyProof.Rows L2
variable {c : Sc} {C : Cons} {k : Nat} {F : Calls} {X : Cx}

theorem put_go {K : PySem.W.Frag} {Fr : Hp} {M : Nat → Addr} {G H : Hp} {μ μ3 : Store} {w : Val} {x : V} {y : D} {u : V} {k : Int} {Q : Hp → Prop} (s : SS K Fr M G H μ) (rw' : RV K M G x w) (r : Rp K G u y) (e : Mu.putV μ w k y = some μ3)
    (q : ∀ H', SS K Fr M G H' μ3 → μ3.length = μ.length → Q H') : rSetL x (.int k) u H Q := by
  cases rw' with
  | d _ => cases e
  | p i =>
    obtain ⟨⟨vs, j, h1, h2, s1⟩, n⟩ := s.putV r e
    exact ⟨M i, vs, k, j, rfl, rfl, h1, h2, q _ s1 n⟩
theorem s_put {ma mi m : E} {a i v : Expr} {p pos : Pos} (ha : PE X a (tv X.K (evE C F ma))) (hi : PE X i (tv X.K (evE C F mi))) (h : PE X v (tv X.K (evE C F m))) (hc : isComp v = false) (hp : plainX i = true) : PS X (.Assign [.Subscript a i p] v pos) (tvS X.K (evS C F (.put ma mi m))) := by
  have pg : PG X (.Subscript a i p) (gSub (tv X.K (evE C F ma)) (tv X.K (evE C F mi)) rSetL) := pg_sub ha hi set_list (by intro v; cases i <;> first | rfl | cases hp)
  refine (ps_asg h pg (by cases v <;> first | rfl | cases hc) (by cases v <;> rfl) rfl).wk fun Dn σ H q => ?_
  obtain ⟨Fr, M, G, ρ, μ, fl, ρ', μ', at_, e, q⟩ := q
  simp only [evS] at e
  obtain ⟨⟨y, μ1⟩, e1, e⟩ := bnd e
  obtain ⟨⟨w, μ0⟩, e0, e1'⟩ := bnd e1
  obtain ⟨⟨wa, μ2⟩, e2, e⟩ := bnd e
  obtain ⟨⟨kk, μ3⟩, e3, e⟩ := bnd e
  obtain ⟨μ4, e4, e⟩ := Option.map_eq_some_iff.mp e
  cases e
  refine tv_go at_.ss at_.rr e0 fun x H1 G1 l1 s1 n1 r1 => ?_
  obtain ⟨G2, l2, s2, r2, n2⟩ := s1.frzV r1 e1'
  refine tv_go s2 (at_.rr.mono (l1.trans l2)) e2 fun z H3 G3 l3 s3 n3 r3 => tv_go s3 (at_.rr.mono (l1.trans (l2.trans l3))) (toI_some e3) fun z2 H4 G4 l4 s4 n4 r4 => ?_
  cases r4 with
  | d r4 =>
    cases r4
    refine put_go s4 (r3.mono l4) (r2.mono (l3.trans l4)) e4 fun H5 s5 n5 => ?_
    have n6 : μ'.length = μ.length := by omega
    exact q σ H5 G4 M (l1.trans (l2.trans (l3.trans l4))) ⟨s5, at_.rr.mono (l1.trans (l2.trans (l3.trans l4))), by rw [n6]; exact at_.bd⟩ (.eq M n6)
theorem swapped_sub {a i b j e d : Expr} {p1 p2 p3 p4 : Pos} {k1 k2 : Nat} {env : Env} : swappedStores [.Tuple [.Subscript a i p1, .Subscript b j p2] k1 p3] (.Tuple [e, d] k2 p4) env = pure none := by
  unfold swappedStores
  simp
theorem s_put2 (b : Body X c C k F) {ma mi mb mj me md : E} {a i b' j e d : Expr} {p1 p2 p3 p4 pos : Pos} {k1 k2 : Nat} (ha : PE X a (tv X.K (evE C F ma))) (hi : PE X i (tv X.K (evE C F mi))) (hb : PE X b' (tv X.K (evE C F mb))) (hj : PE X j (tv X.K (evE C F mj)))
    (he : PE X e (tv X.K (evE C F me))) (hd : PE X d (tv X.K (evE C F md))) (hpi : plainX i = true) (hpj : plainX j = true) (hpe : plainX e = true) (hpd : plainX d = true) :
    PS X (.Assign [.Tuple [.Subscript a i p1, .Subscript b' j p2] k1 p3] (.Tuple [e, d] k2 p4) pos) (tvS X.K (evS C F (.put2 ma mi mb mj me md))) := by
  have pg1 : PG X (.Subscript a i p1) (gSub (tv X.K (evE C F ma)) (tv X.K (evE C F mi)) rSetL) := pg_sub ha hi set_list (by intro v; cases i <;> first | rfl | cases hpi)
  have pg2 : PG X (.Subscript b' j p2) (gSub (tv X.K (evE C F mb)) (tv X.K (evE C F mj)) rSetL) := pg_sub hb hj set_list (by intro v; cases j <;> first | rfl | cases hpj)
  have hsd : starEach [d] X.env = (false, eval d X.env) :: starEach [] X.env := star_of hpd
  have hse : starEach [e, d] X.env = (false, eval e X.env) :: starEach [d] X.env := star_of hpe
  refine (ps_asg (pe_tup (pa_cons he (pa_cons hd pa_nil hsd) hse)) (pg_tup (n := 2) b.calm (pgs_cons pg1 (pgs_cons pg2 pgs_nil rfl) rfl) rfl rfl) rfl swapped_sub rfl).wk fun Dn σ H q => ?_
  obtain ⟨Fr, M, G, ρ, μ, fl, ρ', μ', at_, e, q⟩ := q
  simp only [evS] at e
  obtain ⟨⟨y, μ1⟩, e1, e⟩ := bnd e
  obtain ⟨⟨w, μ0⟩, e0, e1'⟩ := bnd e1
  obtain ⟨⟨y2, μ2⟩, e2, e⟩ := bnd e
  obtain ⟨⟨w2, μ20⟩, e20, e2'⟩ := bnd e2
  obtain ⟨⟨wa, μ3⟩, e3, e⟩ := bnd e
  obtain ⟨⟨ki, μ4⟩, e4, e⟩ := bnd e
  obtain ⟨μ5, e5, e⟩ := bnd e
  obtain ⟨⟨wb, μ6⟩, e6, e⟩ := bnd e
  obtain ⟨⟨kj, μ7⟩, e7, e⟩ := bnd e
  obtain ⟨μ8, e8, e⟩ := Option.map_eq_some_iff.mp e
  cases e
  refine tv_go at_.ss at_.rr e0 fun x H1 G1 l1 s1 n1 r1 => ?_
  obtain ⟨G2, l2, s2, r2, n2⟩ := s1.frzV r1 e1'
  refine tv_go s2 (at_.rr.mono (l1.trans l2)) e20 fun x2 H3 G3 l3 s3 n3 r3 => ?_
  obtain ⟨G4, l4, s4, r4, n4⟩ := s3.frzV r3 e2'
  refine ⟨by show 2 ≤ sizeLine; decide, fun p hp => ?_⟩
  have l14 := l1.trans (l2.trans (l3.trans l4))
  have ra : RpA X.K G4 [x, x2] [y, y2] := .cons (r2.mono (l3.trans l4)) (.cons r4 .nil)
  obtain ⟨s5, l5⟩ := s4.new (o := .tup [x, x2]) hp
  have l15 := l14.trans l5
  have ra5 := ra.mono l5
  refine ⟨p, [x, x2], rfl, .inl (.inl upd_same), rfl, x, [x2], rfl, ?_⟩
  refine tv_go s5 (at_.rr.mono l15) e3 fun z H6 G6 l6 s6 n6 r6 => tv_go s6 (at_.rr.mono (l15.trans l6)) (toI_some e4) fun z2 H7 G7 l7 s7 n7 r7 => ?_
  cases r7 with
  | d r7 =>
    cases r7
    have ra7 := ra5.mono (l6.trans l7)
    cases ra7 with
    | cons q1 q2 =>
      refine put_go s7 (r6.mono l7) q1 e5 fun H8 s8 n8 => ⟨x2, [], rfl, ?_⟩
      refine tv_go s8 (at_.rr.mono (l15.trans (l6.trans l7))) e6 fun z3 H9 G9 l9 s9 n9 r9 => tv_go s9 (at_.rr.mono (l15.trans (l6.trans (l7.trans l9)))) (toI_some e7) fun z4 H10 G10 l10 s10 n10 r10 => ?_
      cases r10 with
      | d r10 =>
        cases r10
        cases q2 with
        | cons q2 _ =>
          refine put_go s10 (r9.mono l10) (q2.mono (l9.trans l10)) e8 fun H11 s11 n11 => ⟨rfl, ?_⟩
          have n12 : μ'.length = μ.length := by omega
          have l20 := l15.trans (l6.trans (l7.trans (l9.trans l10)))
          exact q σ H11 G10 M l20 ⟨s11, at_.rr.mono l20, by rw [n12]; exact at_.bd⟩ (.eq M n12)

/-! ### blocks, if, loops -/
theorem s_nil : PSs X [] (tvS X.K (evSs C F [])) := by
  refine PSs.wk pss_nil fun Dn σ H q => ?_
  obtain ⟨Fr, M, G, ρ, μ, fl, ρ', μ', a, e, q⟩ := q
  simp only [evSs] at e
  cases e
  exact q σ H G M (Le.rfl' _) a (.rf _ _)
theorem EndsOk.mk {K : PySem.W.Frag} {M : Nat → Addr} {G : Hp} {Dn Dn' : Ends} {fl : Flow} {σ : L2.St} {H : Hp} (h : EndsOk K M G Dn fl σ H) (h1 : fl ≠ .nx) (e2 : Dn'.bk = Dn.bk) (e3 : Dn'.ct = Dn.ct) (e4 : Dn'.rt = Dn.rt) : EndsOk K M G Dn' fl σ H := by
  cases fl with
  | nx => exact absurd rfl h1
  | bk => show Dn'.bk σ H; rw [e2]; exact h
  | ct => show Dn'.ct σ H; rw [e3]; exact h
  | ret w => intro v r; rw [e4]; exact h v r
theorem s_cons {s : S} {ss : List S} {st : Stmt} {sts : List Stmt} (h : PS X st (tvS X.K (evS C F s))) (t : PSs X sts (tvS X.K (evSs C F ss))) : PSs X (st :: sts) (tvS X.K (evSs C F (s :: ss))) := by
  refine (pss_cons h t).wk fun Dn σ H q => ?_
  obtain ⟨Fr, M, G, ρ, μ, fl, ρ', μ', a, e, q⟩ := q
  simp only [evSs] at e
  obtain ⟨⟨f, ρ1, μ1⟩, e1, e⟩ := bnd e
  refine ⟨Fr, M, G, ρ, μ, f, ρ1, μ1, a, e1, fun σ1 H1 G1 M1 l1 a1 x1 => ?_⟩
  cases f with
  | nx => exact ⟨Fr, M1, G1, ρ1, μ1, fl, ρ', μ', a1, e, fun σ2 H2 G2 M2 l2 a2 x2 => q σ2 H2 G2 M2 (l1.trans l2) a2 (x1.tr x2)⟩
  | bk => cases e; exact q σ1 H1 G1 M1 l1 a1 x1
  | ct => cases e; exact q σ1 H1 G1 M1 l1 a1 x1
  | ret w => cases e; exact q σ1 H1 G1 M1 l1 a1 x1
theorem s_if {d : Expr} {md : E} {a b : List S} {as bs : List Stmt} {pos : Pos} (hd : PT X d (tvT X.K fun ρ μ => toT (evE C F md ρ μ))) (ha : PSs X as (tvS X.K (evSs C F a))) (hb : PSs X bs (tvS X.K (evSs C F b))) : PS X (.If d as bs pos) (tvS X.K (evS C F (.ife md a b))) := by
  refine (ps_if hd ha hb).wk fun Dn σ H q => ?_
  obtain ⟨Fr, M, G, ρ, μ, fl, ρ', μ', a0, e, q⟩ := q
  simp only [evS] at e
  obtain ⟨⟨k1, μ1⟩, e1, e⟩ := bnd e
  refine ⟨Fr, M, G, ρ, μ, k1, μ1, a0.ss, a0.rr, e1, fun H1 G1 l1 s1 n1 => ?_⟩
  have a1 : At X.K Fr M G1 H1 μ1 ρ σ := ⟨s1, a0.rr.mono l1, by rw [n1]; exact a0.bd⟩
  dsimp only at e ⊢
  cases k1 with
  | true =>
    rw [if_pos rfl] at e ⊢
    exact ⟨Fr, M, G1, ρ, μ1, fl, ρ', μ', a1, e, fun σ2 H2 G2 M2 l2 a2 x2 => q σ2 H2 G2 M2 (l1.trans l2) a2 ((Xt.eq M n1).tr x2)⟩
  | false =>
    rw [if_neg Bool.false_ne_true] at e ⊢
    exact ⟨Fr, M, G1, ρ, μ1, fl, ρ', μ', a1, e, fun σ2 H2 G2 M2 l2 a2 x2 => q σ2 H2 G2 M2 (l1.trans l2) a2 ((Xt.eq M n1).tr x2)⟩
theorem whileO_iter {α β : Type} {f : α → Option (α ⊕ β)} {a : α} {b : β} (h : whileO f a = some b) : ∃ n, iterO f n a = some b := by
  unfold whileO at h
  split at h
  · exact ⟨_, h⟩
  · cases h
theorem s_whl (bd : Body X c C k F) {d : Expr} {md : E} {b : List S} {bs : List Stmt} {pos : Pos} (hd : PT X d (tvT X.K fun ρ μ => toT (evE C F md ρ μ))) (hb : PSs X bs (tvS X.K (evSs C F b))) : PS X (.While d bs [] pos) (tvS X.K (evS C F (.whl md b))) := by
  refine (ps_while bd.pown hd hb).wk fun Dn σ H q => ?_
  obtain ⟨Fr, M, G, ρ, μ, fl, ρ', μ', a0, e, q⟩ := q
  simp only [evS] at e
  obtain ⟨n, e⟩ := whileO_iter e
  refine ⟨fun m σ1 H1 => ∃ (M1 : Nat → Addr) (G1 : Hp) (ρ1 : Rho) (μ1 : Store), Le G G1 ∧ At X.K Fr M1 G1 H1 μ1 ρ1 σ1 ∧ Xt M μ.length M1 μ1.length ∧ iterO (fun (x : RS) => (toT (evE C F md x.1 x.2)).bind fun (k, μ1) =>
      if k = true then (evSs C F b x.1 μ1).bind fun (f, y) => match f with
        | .nx => some (.inl y)
        | .ct => some (.inl y)
        | .bk => some (.inr (.nx, y))
        | .ret v => some (.inr (.ret v, y))
      else some (.inr (.nx, x.1, μ1))) m (ρ1, μ1) = some (fl, ρ', μ'), ⟨n, M, G, ρ, μ, Le.rfl' _, a0, .rf _ _, e⟩, ?_⟩
  rintro m σ1 H1 ⟨M1, G1, ρ1, μ1, l1, a1, x1, e⟩
  cases m with
  | zero => cases e
  | succ m =>
    simp only [iterO] at e
    split at e
    · cases e
    · rename_i y e2
      obtain ⟨⟨k1, μ2⟩, e1, e2⟩ := bnd e2
      dsimp only at e1 e2
      refine ⟨Fr, M1, G1, ρ1, μ1, k1, μ2, a1.ss, a1.rr, e1, fun H2 G2 l2 s2 n2 => ?_⟩
      have a2 : At X.K Fr M1 G2 H2 μ2 ρ1 σ1 := ⟨s2, a1.rr.mono l2, by rw [n2]; exact a1.bd⟩
      have x2 : Xt M μ.length M1 μ2.length := x1.tr (.eq M1 n2)
      cases k1 with
      | false => rw [if_neg Bool.false_ne_true] at e2; cases e2
      | true =>
        dsimp only
        rw [if_pos rfl] at e2 ⊢
        obtain ⟨⟨f, ρ3, μ3⟩, e3, e2⟩ := bnd e2
        refine ⟨fun σ3 H3 => ∃ (M3 : Nat → Addr) (G3 : Hp), Le G G3 ∧ At X.K Fr M3 G3 H3 μ3 ρ3 σ3 ∧ Xt M μ.length M3 μ3.length, fun σ3 H3 ⟨M3, G3, l3, a3, x3⟩ => ⟨m, Nat.lt_succ_self m, M3, G3, ρ3, μ3, l3, a3, x3, ?_⟩, Fr, M1, G2, ρ1, μ2, f, ρ3, μ3, a2, e3, fun σ3 H3 G3 M3 l3 a3 x3 => ?_⟩
        · cases f with
          | nx => cases e2; exact e
          | ct => cases e2; exact e
          | bk => cases e2
          | ret v => cases e2
        · cases f with
          | nx => exact ⟨M3, G3, l1.trans (l2.trans l3), a3, x2.tr x3⟩
          | ct => exact ⟨M3, G3, l1.trans (l2.trans l3), a3, x2.tr x3⟩
          | bk => cases e2
          | ret v => cases e2
    · rename_i y e2
      cases e
      obtain ⟨⟨k1, μ2⟩, e1, e2⟩ := bnd e2
      dsimp only at e1 e2
      refine ⟨Fr, M1, G1, ρ1, μ1, k1, μ2, a1.ss, a1.rr, e1, fun H2 G2 l2 s2 n2 => ?_⟩
      have a2 : At X.K Fr M1 G2 H2 μ2 ρ1 σ1 := ⟨s2, a1.rr.mono l2, by rw [n2]; exact a1.bd⟩
      have x2 : Xt M μ.length M1 μ2.length := x1.tr (.eq M1 n2)
      cases k1 with
      | false =>
        dsimp only
        rw [if_neg Bool.false_ne_true] at e2 ⊢
        cases e2
        exact q σ1 H2 G2 M1 (l1.trans l2) a2 x2
      | true =>
        dsimp only
        rw [if_pos rfl] at e2 ⊢
        obtain ⟨⟨f, ρ3, μ3⟩, e3, e2⟩ := bnd e2
        refine ⟨fun _ _ => False, fun _ _ z => z.elim, Fr, M1, G2, ρ1, μ2, f, ρ3, μ3, a2, e3, fun σ3 H3 G3 M3 l3 a3 x3 => ?_⟩
        cases f with
        | nx => cases e2
        | ct => cases e2
        | bk => cases e2; exact q σ3 H3 G3 M3 (l1.trans (l2.trans l3)) a3 (x2.tr x3)
        | ret v => cases e2; exact q σ3 H3 G3 M3 (l1.trans (l2.trans l3)) a3 (x2.tr x3)
theorem forO_nil {α : Type} {ok : α → Prop} {f : D → α → Option (α ⊕ (Flow × α))} {a : α} {r : Flow × α} (h : forO ok f [] a = some r) : ok a ∧ r = (.nx, a) := by
  simp only [forO] at h
  split at h
  · rename_i q; cases h; exact ⟨q, rfl⟩
  · cases h
theorem forO_cons {α : Type} {ok : α → Prop} {f : D → α → Option (α ⊕ (Flow × α))} {x : D} {xs : List D} {a : α} {r : Flow × α} (h : forO ok f (x :: xs) a = some r) :
    ok a ∧ ((∃ a', f x a = some (.inl a') ∧ forO ok f xs a' = some r) ∨ f x a = some (.inr r)) := by
  simp only [forO] at h
  split at h
  · rename_i q
    refine ⟨q, ?_⟩
    split at h
    · cases h
    · rename_i a' e; exact .inl ⟨a', e, h⟩
    · rename_i r' e; cases h; exact .inr e
  · cases h
theorem s_for (bd : Body X c C k F) {tg : Tg} {it : It} {b : List S} {tg' it' : Expr} {bs : List Stmt} {pos : Pos} (hi : PI X tg' it' (tvI X.K (evI C F it))) (pi : plainX it' = true) (hg : PG X tg' (gOf X.K tg)) (hb : PSs X bs (tvS X.K (evSs C F b))) :
    PS X (.For tg' it' bs [] pos) (tvS X.K (evS C F (.for_ tg it b))) := by
  refine (ps_for bd.pown bd.calm hi hg hb fun x => folded_of pi).wk fun Dn σ H q => ?_
  obtain ⟨Fr, M, G, ρ, μ, fl, ρ', μ', a0, e, q⟩ := q
  simp only [evS] at e
  obtain ⟨⟨⟨xs, v⟩, μ1⟩, e1, e⟩ := bnd e
  dsimp only at e
  refine ⟨Fr, M, G, ρ, μ, xs, v, μ1, a0.ss, a0.rr, e1, fun J H1 G1 l1 s1 n1 hz st0 wk => ?_⟩
  have a1 : At X.K Fr M G1 H1 μ1 ρ σ := ⟨s1, a0.rr.mono l1, by rw [n1]; exact a0.bd⟩
  refine ⟨fun i m σ2 H2 => m = xs.length - i ∧ i ≤ xs.length ∧ ∃ (M2 : Nat → Addr) (G2 : Hp) (ρ2 : Rho) (μ2 : Store), Le G1 G2 ∧ At X.K Fr M2 G2 H2 μ2 ρ2 σ2 ∧ Xt M μ.length M2 μ2.length ∧ forO (fun (x : RS) => Still v xs x.2) (fun x (a : RS) => (tgS a.1 tg x).bind fun ρ1 => (evSs C F b ρ1 a.2).bind fun (f, y) => match f with
      | .nx => some (.inl y)
      | .ct => some (.inl y)
      | .bk => some (.inr (.nx, y))
      | .ret v => some (.inr (.ret v, y))) (xs.drop i) (ρ2, μ2) = some (fl, ρ', μ'),
    ⟨xs.length, by omega, Nat.zero_le _, M, G1, ρ, μ1, Le.rfl' _, a1, .eq M n1, e⟩, ?_⟩
  rintro i m σ2 H2 ⟨rfl, hi2, M2, G2, ρ2, μ2, l2, a2, x2, e2⟩
  have ag : AgV M M2 v := by
    cases v with
    | d x => trivial
    | p j =>
      have hj : j < μ1.length := (List.getElem?_eq_some_iff.mp (show μ1[j]? = some (some xs) from st0)).1
      exact x2.1 j (by omega)
  by_cases hlt : i < xs.length
  · have hx : xs[i]? = some xs[i] := List.getElem?_eq_getElem hlt
    rw [drop_cons hx] at e2
    obtain ⟨st, e3⟩ := forO_cons e2
    have yl := fun x H' y => wk.yld _ M2 i H2 G2 μ2 x H' a2.ss l2 ag st hlt y
    rcases e3 with ⟨⟨ρ3, μ3⟩, e4, e5⟩ | e4
    · obtain ⟨ρ1, e6, e4⟩ := bnd e4
      obtain ⟨⟨f, ρ4, μ4⟩, e7, e4⟩ := bnd e4
      refine .inr ⟨wk.go _ M2 i H2 G2 μ2 a2.ss l2 ag st hlt, fun σ3 H3 => ∃ (M3 : Nat → Addr) (G3 : Hp), Le G1 G3 ∧ At X.K Fr M3 G3 H3 μ3 ρ3 σ3 ∧ Xt M μ.length M3 μ3.length, fun σ3 H3 ⟨M3, G3, l3, a3, x3⟩ => ⟨xs.length - (i + 1), by omega, rfl, hlt, M3, G3, ρ3, μ3, l3, a3, x3, e5⟩, fun x H' y => ?_⟩
      obtain ⟨rfl, d, hd, rd⟩ := yl x H' y
      rw [hx] at hd
      cases hd
      refine tg_go a2.ss a2.rr rd e6 fun σ1 rr1 _ => ⟨Fr, M2, G2, ρ1, μ2, f, ρ4, μ4, ⟨a2.ss, rr1, a2.bd.tg e6⟩, e7, fun σ3 H3 G3 M3 l3 a3 x3 => ?_⟩
      cases f with
      | nx => cases e4; exact ⟨M3, G3, l2.trans l3, a3, x2.tr x3⟩
      | ct => cases e4; exact ⟨M3, G3, l2.trans l3, a3, x2.tr x3⟩
      | bk => cases e4
      | ret w => cases e4
    · obtain ⟨ρ1, e6, e4⟩ := bnd e4
      obtain ⟨⟨f, ρ4, μ4⟩, e7, e4⟩ := bnd e4
      refine .inr ⟨wk.go _ M2 i H2 G2 μ2 a2.ss l2 ag st hlt, fun _ _ => False, fun _ _ z => z.elim, fun x H' y => ?_⟩
      obtain ⟨rfl, d, hd, rd⟩ := yl x H' y
      rw [hx] at hd
      cases hd
      refine tg_go a2.ss a2.rr rd e6 fun σ1 rr1 _ => ⟨Fr, M2, G2, ρ1, μ2, f, ρ4, μ4, ⟨a2.ss, rr1, a2.bd.tg e6⟩, e7, fun σ3 H3 G3 M3 l3 a3 x3 => ?_⟩
      cases f with
      | nx => cases e4
      | ct => cases e4
      | bk => cases e4; exact q σ3 H3 G3 M3 (l1.trans (l2.trans l3)) a3 (x2.tr x3)
      | ret w => cases e4; exact q σ3 H3 G3 M3 (l1.trans (l2.trans l3)) a3 (x2.tr x3)
  · have ei : i = xs.length := by omega
    subst ei
    rw [List.drop_length] at e2
    obtain ⟨st, e3⟩ := forO_nil e2
    cases e3
    exact .inl ⟨wk.stop _ M2 H2 G2 _ a2.ss l2 ag st, q σ2 H2 G2 M2 (l1.trans l2) a2 x2⟩
end Mu

namespace Mu
open PySem PySem.Spec
open PyProof.Rows L2
variable {c : Sc} {C : Cons} {k : Nat} {F : Calls} {X : Cx}

theorem soundComp {own : List Nat} {tg : Tg} {it : It} {cs : Es} {elt : E} (g : Good X c C k F) {e : Expr} (h : ckE c X.env.scope (.comp own tg it cs elt) e = true) :
    PE X e (tvN X.K (evE C F (.comp own tg it cs elt))) ∧ (∀ {i : Nat} {y : Str} {py spos : Pos}, X.N[i]? = some y → X.env.scope.names.lookup y = some .local → swapsWith e (some (.Name y py)) spos.line X.env = pure true →
      PS X (.Assign [.Name y py] e spos) (tAsg (tvN X.K (evE C F (.comp own tg it cs elt))) (gName i))) := by
  cases e with
  | ListComp elt' gs scope pos =>
    cases gs with
    | nil => exact ff h
    | cons g1 gs =>
      obtain ⟨tg', it', ifs', as⟩ := g1
      cases gs with
      | cons _ _ => exact ff h
      | nil =>
        simp only [ckE, Bool.and_eq_true, List.all_eq_true, decide_eq_true_eq] at h
        obtain ⟨⟨⟨⟨⟨⟨⟨⟨rfl, h1⟩, h2⟩, h3⟩, h4⟩, h5⟩, h6⟩, h7⟩, h8⟩ := h
        obtain ⟨pi, pp⟩ := soundI it X g tg' it' h4
        exact snd_comp (pos := pos) g pi pp (by rw [g.N]; exact h1) h3
          (fun s H A cl fp => ckTg_pg (X := X.blk s H scope (compEnvC scope cl A X.env) fp) h5 g.N g.nd g.calm fun x hx => hx)
          (fun s H A cl fp => (soundEs cs _ (g.blk s H scope (compEnvC scope cl A X.env) fp) ifs' h6).2.2.2.2.2.2 h7)
          (fun s H A cl fp => (soundE elt _ (g.blk s H scope (compEnvC scope cl A X.env) fp) elt' h8).1)
  | _ => exact ff h
theorem soundComp2 {own : List Nat} {tg tg1 : Tg} {it it1 : It} {cs : Es} {elt : E} (g : Good X c C k F) {e : Expr} (h : ckE c X.env.scope (.comp2 own tg it tg1 it1 cs elt) e = true) :
    PE X e (tvN X.K (evE C F (.comp2 own tg it tg1 it1 cs elt))) ∧ (∀ {i : Nat} {y : Str} {py spos : Pos}, X.N[i]? = some y → X.env.scope.names.lookup y = some .local → swapsWith e (some (.Name y py)) spos.line X.env = pure true →
      PS X (.Assign [.Name y py] e spos) (tAsg (tvN X.K (evE C F (.comp2 own tg it tg1 it1 cs elt))) (gName i))) := by
  cases e with
  | ListComp elt' gs scope pos =>
    cases gs with
    | nil => exact ff h
    | cons g1 gs =>
      obtain ⟨tg', it', ifs0, as⟩ := g1
      cases gs with
      | nil => cases ifs0 <;> exact ff h
      | cons g2 gs =>
        obtain ⟨tg1', it1', ifs', as1⟩ := g2
        cases ifs0 with
        | cons _ _ => exact ff h
        | nil =>
          cases gs with
          | cons _ _ => exact ff h
          | nil =>
            simp only [ckE, Bool.and_eq_true, List.all_eq_true, decide_eq_true_eq] at h
            obtain ⟨⟨⟨⟨⟨⟨⟨⟨⟨⟨⟨⟨rfl, rfl⟩, h1⟩, h2⟩, h3⟩, h3'⟩, h4⟩, h5⟩, h4'⟩, h5'⟩, h6⟩, h7⟩, h8⟩ := h
            obtain ⟨pi, pp⟩ := soundI it X g tg' it' h4
            have pp1 : plainX it1' = true := ckI_plain h4'
            exact snd_comp2 (pos := pos) g pi pp pp1 (by rw [g.N]; exact h1) h3 h3'
              (fun s H A cl fp => ckTg_pg (X := X.blk s H scope (compEnvC scope cl A X.env) fp) h5 g.N g.nd g.calm fun x hx => hx)
              (fun s H A cl fp => (soundI it1 _ (g.blk s H scope (compEnvC scope cl A X.env) fp) tg1' it1' h4').1)
              (fun s H A cl fp => ckTg_pg (X := X.blk s H scope (compEnvC scope cl A X.env) fp) h5' g.N g.nd g.calm fun x hx => hx)
              (fun s H A cl fp => (soundEs cs _ (g.blk s H scope (compEnvC scope cl A X.env) fp) ifs' h6).2.2.2.2.2.2 h7)
              (fun s H A cl fp => (soundE elt _ (g.blk s H scope (compEnvC scope cl A X.env) fp) elt' h8).1)
  | _ => exact ff h
/-- the meaning of a comprehension is a comprehension's -/
theorem comp_of {sc : Scope} {m : E} {e : Expr} (h : ckE c sc m e = true) (hc : isComp e = true) : (∃ own tg it cs elt, m = .comp own tg it cs elt) ∨ ∃ own tg it tg1 it1 cs elt, m = .comp2 own tg it tg1 it1 cs elt := by
  cases e with
  | ListComp a b d f =>
    cases m <;> first
      | exact .inl ⟨_, _, _, _, _, rfl⟩
      | exact .inr ⟨_, _, _, _, _, _, _, rfl⟩
      | exact ff h
  | SetComp a b d f => cases m <;> exact ff h
  | DictComp a b d f g => cases m <;> exact ff h
  | _ => cases hc
theorem sw_of {sc : Scope} {x : Str} {py : Pos} {e : Expr} {l : Nat} {env : Env} (hs : env.scope = sc) (hk : sc.kind = .function) (h : compB sc x py e = true) : swapsWith e (some (.Name x py)) l env = pure true ∧ sc.names.lookup x = some .local := by
  cases e with
  | ListComp a b d f =>
    simp only [compB, Bool.and_eq_true, decide_eq_true_eq, Bool.not_eq_true'] at h
    exact ⟨sw_true (by rw [hs]; exact hk) (by rw [hs]; exact h.1.1) h.1.2 h.2, h.1.1⟩
  | _ => exact ff h
theorem soundNew (g : Good X c C k F) {m : E} {e : Expr} (h : ckE c X.env.scope m e = true) (hm : isNew m = true) : PE X e (tvN X.K (evE C F m)) := by
  cases m with
  | lst es =>
    cases e with
    | List ls pos =>
      simp only [ckE, Bool.and_eq_true, decide_eq_true_eq] at h
      exact new_lst (soundEs es X g ls h.1).1 h.2
    | _ => exact ff h
  | rep es m =>
    cases e with
    | BinOp a o b pos =>
      cases a with
      | List ls p1 =>
        cases o with
        | Mult =>
          simp only [ckE, Bool.and_eq_true, decide_eq_true_eq] at h
          exact new_rep (soundEs es X g ls h.1.1).1 h.1.2 (soundE m X g b h.2).1
        | _ => exact ff h
      | _ => exact ff h
    | _ => exact ff h
  | comp own tg it cs elt => exact (soundComp g h).1
  | callM f es =>
    cases e with
    | Call x ls ks pos =>
      cases x with
      | Name x p =>
        cases ks with
        | nil =>
          simp only [ckE, Bool.and_eq_true, decide_eq_true_eq] at h
          obtain ⟨_, q1, q2, q3, _⟩ := soundEs es X g ls h.2
          exact snd_callM g h.1.1 h.1.2 q1 q2 q3
        | cons _ _ => exact ff h
      | _ => exact ff h
    | _ => exact ff h
  | comp2 own tg it tg1 it1 cs elt => exact (soundComp2 g h).1
  | bi b a =>
    cases b with
    | lst =>
      cases e with
      | Call x ls ks pos =>
        cases x with
        | Name x p =>
          match ls, h with
          | [a'], h =>
            cases ks with
            | nil =>
              simp only [ckE, Bool.and_eq_true, decide_eq_true_eq] at h
              obtain ⟨⟨h1, rfl⟩, h2⟩ := h
              exact new_list g h1 (soundE a X g a' h2).1 (ck_plain h2)
            | cons _ _ => exact ff h
          | [], h => exact ff h
          | _ :: _ :: _, h => exact ff h
        | _ => exact ff h
      | _ => exact ff h
    | _ => cases hm
  | _ => cases hm

theorem s_brk {pos : Pos} : PS X (.Break pos) (tvS X.K (evS C F .brk)) := by
  refine PS.wk ps_break fun Dn σ H q => ?_
  obtain ⟨Fr, M, G, ρ, μ, fl, ρ', μ', a, e, q⟩ := q
  simp only [evS] at e
  cases e
  exact q σ H G M (Le.rfl' _) a (.rf _ _)
theorem s_cnt {pos : Pos} : PS X (.Continue pos) (tvS X.K (evS C F .cnt)) := by
  refine PS.wk ps_continue fun Dn σ H q => ?_
  obtain ⟨Fr, M, G, ρ, μ, fl, ρ', μ', a, e, q⟩ := q
  simp only [evS] at e
  cases e
  exact q σ H G M (Le.rfl' _) a (.rf _ _)
theorem s_pass {pos : Pos} : PS X (.Pass pos) (tvS X.K (evS C F .pass)) := by
  refine PS.wk ps_pass fun Dn σ H q => ?_
  obtain ⟨Fr, M, G, ρ, μ, fl, ρ', μ', a, e, q⟩ := q
  simp only [evS] at e
  cases e
  exact q σ H G M (Le.rfl' _) a (.rf _ _)
mutual
theorem soundS : ∀ (s : S) (X : Cx) (b : Body X c C k F) (st : Stmt), ckS c X.env.scope s st = true → PS X st (tvS X.K (evS C F s))
  | .set i m, X, b, st, h => by
    cases st with
    | Assign ts v pos =>
      obtain ⟨⟨x, py⟩, h0, hh⟩ := okO_of h
      obtain ⟨e, rfl, he⟩ := one_of h0
      have he := nmE_of he
      subst he
      simp only [Bool.and_eq_true, Bool.or_eq_true, decide_eq_true_eq, Bool.not_eq_true'] at hh
      obtain ⟨⟨⟨h1, h2⟩, h3⟩, h4⟩ := hh
      cases hc : isComp v with
      | false => exact s_set b h1 h2 (soundE m X b.toGood v h3).1 hc
      | true =>
        have h4 : compB X.env.scope x py v = true := by
          rcases h4 with h4 | h4
          · rw [hc] at h4; cases h4
          · exact h4
        obtain ⟨sw, hl⟩ := sw_of (l := pos.line) rfl b.knd h4
        rcases comp_of h3 hc with ⟨_, _, _, _, _, rfl⟩ | ⟨_, _, _, _, _, _, _, rfl⟩
        · exact ((soundComp b.toGood h3).2 (by rw [b.N]; exact h1) hl sw).wk fun _ _ _ q => tvN_tv comp_list (s_set_go q)
        · exact ((soundComp2 b.toGood h3).2 (by rw [b.N]; exact h1) hl sw).wk fun _ _ _ q => tvN_tv comp2_list (s_set_go q)
    | _ => exact ff h
  | .setM i m, X, b, st, h => by
    cases st with
    | Assign ts v pos =>
      obtain ⟨⟨x, py⟩, h0, hh⟩ := okO_of h
      obtain ⟨e, rfl, he⟩ := one_of h0
      have he := nmE_of he
      subst he
      simp only [Bool.and_eq_true, Bool.or_eq_true, decide_eq_true_eq, Bool.not_eq_true'] at hh
      obtain ⟨⟨⟨⟨h1, h2⟩, h3⟩, h5⟩, h4⟩ := hh
      cases hc : isComp v with
      | false => exact s_setM b h1 h2 (soundNew b.toGood h3 h5) hc
      | true =>
        have h4 : compB X.env.scope x py v = true := by
          rcases h4 with h4 | h4
          · rw [hc] at h4; cases h4
          · exact h4
        obtain ⟨sw, hl⟩ := sw_of (l := pos.line) rfl b.knd h4
        rcases comp_of h3 hc with ⟨_, _, _, _, _, rfl⟩ | ⟨_, _, _, _, _, _, _, rfl⟩
        · exact ((soundComp b.toGood h3).2 (by rw [b.N]; exact h1) hl sw).wk fun _ _ _ q => s_setM_go q
        · exact ((soundComp2 b.toGood h3).2 (by rw [b.N]; exact h1) hl sw).wk fun _ _ _ q => s_setM_go q
    | _ => exact ff h
  | .unp is m, X, b, st, h => by
    cases st with
    | Assign ts v pos =>
      obtain ⟨⟨l, kk, p⟩, h0, hh⟩ := okO_of h
      obtain ⟨e, rfl, he⟩ := one_of h0
      have he := tpE_of he
      subst he
      simp only [Bool.and_eq_true] at hh
      exact s_unp b hh.1.1 (soundE m X b.toGood v hh.1.2).1 hh.2
    | _ => exact ff h
  | .aug i o m, X, b, st, h => by
    cases st with
    | AugAssign t o' v pos =>
      obtain ⟨⟨x, p⟩, h0, hh⟩ := okO_of h
      have he := nmE_of h0
      subst he
      simp only [Bool.and_eq_true, decide_eq_true_eq] at hh
      obtain ⟨⟨⟨⟨h1, h2⟩, h3⟩, rfl⟩, h4⟩ := hh
      exact s_aug b h3 h1 h2 (soundE m X b.toGood v h4).1
    | _ => exact ff h
  | .ret m, X, b, st, h => by
    cases st with
    | Return v pos =>
      obtain ⟨v, rfl, h⟩ := okO_of h
      exact s_ret (soundE m X b.toGood v h).1
    | _ => exact ff h
  | .retN, X, b, st, h => by
    cases st with
    | Return v pos =>
      cases v with
      | none => exact s_retN
      | some _ => exact ff h
    | _ => exact ff h
  | .retM m, X, b, st, h => by
    cases st with
    | Return v pos =>
      obtain ⟨v, rfl, h⟩ := okO_of h
      have h := (Bool.and_eq_true _ _).mp h
      exact s_retM (soundNew b.toGood h.1 h.2)
    | _ => exact ff h
  | .drop m, X, b, st, h => by
    cases st with
    | Expr v pos =>
      simp only [ckS, Bool.and_eq_true, Bool.not_eq_true'] at h
      exact s_drop (soundE m X b.toGood v h.1).1 h.2
    | _ => exact ff h
  | .app a m, X, b, st, h => by
    cases st with
    | Expr v pos =>
      obtain ⟨⟨⟨x, xp⟩, y, ap, w, p⟩, h0, hh⟩ := okO_of h
      have he := appE_of h0
      subst he
      simp only [Bool.and_eq_true, decide_eq_true_eq] at hh
      obtain ⟨⟨⟨rfl, h1⟩, h2⟩, h3⟩ := hh
      exact s_app h1 (soundE a X b.toGood _ h2).1 (soundE m X b.toGood w h3).1 (ck_plain h3)
    | _ => exact ff h
  | .put a i m, X, b, st, h => by
    cases st with
    | Assign ts v pos =>
      obtain ⟨⟨a', i', p⟩, h0, hh⟩ := okO_of h
      obtain ⟨e, rfl, he⟩ := one_of h0
      have he := subE_of he
      subst he
      simp only [Bool.and_eq_true, Bool.not_eq_true'] at hh
      exact s_put (soundE a X b.toGood a' hh.1.1.1).1 (soundE i X b.toGood i' hh.1.1.2).1 (soundE m X b.toGood v hh.1.2).1 hh.2 (ck_plain hh.1.1.2)
    | _ => exact ff h
  | .put2 a i b2 j m m2, X, b, st, h => by
    cases st with
    | Assign ts v pos =>
      obtain ⟨⟨l, kk, p⟩, h0, g0⟩ := okO_of h
      obtain ⟨e, rfl, he⟩ := one_of h0
      have he' := tpE_of he
      subst he'
      obtain ⟨⟨⟨a', i', p1⟩, ⟨b', j', p2⟩⟩, h1, g1⟩ := okO_of g0
      obtain ⟨⟨l2, k2, p3⟩, h4, g2⟩ := okO_of g1
      obtain ⟨⟨e', d'⟩, h5, g3⟩ := okO_of g2
      obtain ⟨d1, d2, el, h2, h3⟩ := two_of h1
      have h2' := subE_of h2
      have h3' := subE_of h3
      have h4' := tpE_of h4
      obtain ⟨d3, d4, el2, h6, h7⟩ := two_of h5
      cases h6
      cases h7
      dsimp only at el el2 h2' h3' h4'
      subst h4'
      subst el
      subst el2
      subst h2'
      subst h3'
      simp only [Bool.and_eq_true] at g3
      obtain ⟨⟨⟨⟨⟨q1, q2⟩, q3⟩, q4⟩, q5⟩, q6⟩ := g3
      exact s_put2 b (soundE a X b.toGood a' q1).1 (soundE i X b.toGood i' q2).1 (soundE b2 X b.toGood b' q3).1 (soundE j X b.toGood j' q4).1 (soundE m X b.toGood _ q5).1 (soundE m2 X b.toGood _ q6).1 (ck_plain q2) (ck_plain q4) (ck_plain q5) (ck_plain q6)
    | _ => exact ff h
  | .par .., X, b, st, h => by
    cases st <;> exact ff h
  | .ife d as bs, X, b, st, h => by
    cases st with
    | If d' a' b' pos =>
      simp only [ckS, Bool.and_eq_true] at h
      exact s_if ((soundE d X b.toGood d' h.1.1.1).2 h.1.1.2) (soundSs as X b a' h.1.2) (soundSs bs X b b' h.2)
    | _ => exact ff h
  | .whl d bs, X, b, st, h => by
    cases st with
    | While d' b' el pos =>
      simp only [ckS, Bool.and_eq_true] at h
      cases el with
      | nil => exact s_whl b ((soundE d X b.toGood d' h.1.1.1).2 h.1.1.2) (soundSs bs X b b' h.1.2)
      | cons _ _ => exact ff h.2
    | _ => exact ff h
  | .for_ tg it bs, X, b, st, h => by
    cases st with
    | For tg' it' b' el pos =>
      simp only [ckS, Bool.and_eq_true] at h
      cases el with
      | nil =>
        obtain ⟨p1, p2⟩ := soundI it X b.toGood tg' it' h.1.1.2
        exact s_for b p1 p2 (ckTg_pg h.1.1.1 b.N b.nd b.calm fun x _ => b.fn x) (soundSs bs X b b' h.1.2)
      | cons _ _ => exact ff h.2
    | _ => exact ff h
  | .brk, X, b, st, h => by
    cases st with
    | Break pos => exact s_brk
    | _ => exact ff h
  | .cnt, X, b, st, h => by
    cases st with
    | Continue pos => exact s_cnt
    | _ => exact ff h
  | .pass, X, b, st, h => by
    cases st with
    | Pass pos => exact s_pass
    | _ => exact ff h
theorem soundSs : ∀ (s : List S) (X : Cx) (b : Body X c C k F) (st : List Stmt), ckSs c X.env.scope s st = true → PSs X st (tvS X.K (evSs C F s))
  | [], X, b, st, h => by
    cases st with
    | nil => exact s_nil
    | cons _ _ => exact ff h
  | s :: ss, X, b, st, h => by
    cases st with
    | nil => exact ff h
    | cons t ts =>
      simp only [ckSs, Bool.and_eq_true] at h
      exact s_cons (soundS s X b t h.1) (soundSs ss X b ts h.2)
end
end Mu

namespace Mu
open PySem PySem.Spec
open PyProof.Rows L2

/-! ### defs -/
theorem endD_ok {K : PySem.W.Frag} {Fr : Hp} {M M' : Nat → Addr} {G H : Hp} {μ μ1 μ' : Store} {v r : Val} {u : V} (s : SS K Fr M' G H μ1) (x : Xt M μ.length M' μ1.length) (rv : RV K M' G u v) (e : endD μ v μ1 = some (r, μ')) :
    ∃ G', Le G G' ∧ SS K Fr M G' H μ' ∧ μ'.length = μ.length ∧ RV K M G' u r := by
  unfold endD at e
  split at e
  rotate_left
  · cases e
  rename_i hl
  have ln : ∀ ν : Store, ν.length = μ1.length → (ν.take μ.length).length = μ.length := fun ν h => by rw [List.length_take]; omega
  have back : ∀ {G2 : Hp} {ν : Store}, SS K Fr M' G2 H ν → ν.length = μ1.length → SS K Fr M G2 H (ν.take μ.length) := fun {G2 ν} s2 h => (s2.take μ.length).reM fun i hi => by
    rw [ln ν h] at hi
    exact (x.1 i hi).symm
  split at e
  · rename_i d
    cases e
    cases rv with
    | d rv => exact ⟨G, Le.rfl' _, back s rfl, ln _ rfl, .d rv⟩
  · rename_i i
    cases rv
    split at e
    · rename_i hi
      cases e
      refine ⟨G, Le.rfl' _, back s rfl, ln _ rfl, ?_⟩
      rw [x.1 i hi]
      exact .p i
    · rename_i hi
      obtain ⟨d, e1, e⟩ := Option.map_eq_some_iff.mp e
      cases e
      unfold deref at e1
      simp only at e1
      split at e1
      · rename_i ds hd
        cases e1
        obtain ⟨G2, l2, s2, r2⟩ := s.frz hd
        have ht : (μ1.set i none).take μ.length = μ1.take μ.length := by
          rw [List.take_set_of_le (by omega)]
        have b := back s2 (by simp)
        rw [ht] at b
        exact ⟨G2, l2, b, ln _ rfl, .d r2⟩
      · cases e1
theorem rr_start {K : PySem.W.Frag} {M : Nat → Addr} {G : Hp} : ∀ {vs : List V} {ws : List Val} {n : Nat}, RVs K M G vs ws → RR K M G (ws.map some ++ List.replicate n none) (vs.map some ++ List.replicate n none) := by
  intro vs ws n r
  refine ⟨by simp [r.length], fun i w e => ?_⟩
  have hi : i < ws.length := by
    by_cases h : i < ws.length
    · exact h
    · rw [List.getElem?_append_right (by simp; omega), List.getElem?_replicate] at e
      split at e <;> cases e
  rw [List.getElem?_append_left (by simpa using hi), List.getElem?_map] at e
  have hv : i < vs.length := by rw [r.length]; exact hi
  rw [List.getElem?_append_left (by simpa using hv), List.getElem?_map]
  have key : ∀ {vs : List V} {ws : List Val} {i : Nat} {w : Val}, RVs K M G vs ws → ws[i]? = some w → ∃ v, vs[i]? = some v ∧ RV K M G v w := by
    intro vs ws i w r
    induction r generalizing i with
    | nil => intro h; simp at h
    | cons h t ih =>
      intro e
      cases i with
      | zero => simp at e; subst e; exact ⟨_, rfl, h⟩
      | succ i =>
        obtain ⟨v, a, b⟩ := ih (i := i) (by simpa using e)
        exact ⟨v, by simpa using a, b⟩
  cases q : ws[i]? with
  | none => rw [q] at e; cases e
  | some w' =>
    rw [q] at e
    cases e
    obtain ⟨v, a, b⟩ := key r q
    exact ⟨v, by rw [a]; rfl, b⟩
theorem bd_start {ws : List Val} {μ : Store} {n : Nat} (h : ws.all (bdV μ) = true) : Bd (ws.map some ++ List.replicate n none) μ.length := fun i j e => by
  have hi : i < ws.length := by
    by_cases h : i < ws.length
    · exact h
    · rw [List.getElem?_append_right (by simp; omega), List.getElem?_replicate] at e
      split at e <;> cases e
  rw [List.getElem?_append_left (by simpa using hi), List.getElem?_map] at e
  cases q : ws[i]? with
  | none => rw [q] at e; cases e
  | some w' =>
    rw [q] at e
    cases e
    have := List.all_eq_true.mp h _ (List.mem_of_getElem? q)
    simpa [bdV] using this
/-- the facts of a def of the text -/
structure DefOk (K : PySem.W.Frag) (mg : Str → Option Value) (fns cons : List Str) (x : Str) (fd : FD) : Prop where
  ex : ∃ (N ps : List Str) (st : Stmt) (f : Addr) (fdat : FuncData), mg x = some (.ref f) ∧ Fun K x x st f fdat ∧ FnScope N ps (defScope st) ∧ Binds K fdat ps [] ∧ ckSs ⟨N, fns, cons⟩ (defScope st) fd.body (defBody st) = true ∧ ps.length = fd.ps ∧ N.length = fd.n
structure World' (K : PySem.W.Frag) (mg : Str → Option Value) (cons : List Str) (C : Cons) : Prop where
  blt : ∀ x ∈ bltNames, mg (x : Str) = none
  con : ∀ (n : Nat) (x : Str) (d : D), cons[n]? = some x → C n = some d → ∃ u v, mg x = some u ∧ RelV v u ∧ Rp K (fun _ => none) v d
/-- a def's body from its call to its end -/
theorem run_gen {P : Program} {w : World} {K : PySem.W.Frag} {mg : Str → Option Value} {base : Heap} {fns cons : List Str} {C : Cons} {k : Nat} {F : Calls} {x : Str} {fd : FD} (W : World' K mg cons C) (D : DefOk K mg fns cons x fd)
    (calls : CallsOk P w K mg base ⟨[], fns, cons⟩ k F) {ws : List Val} {μ : Store} {fl : Flow} {ρ' : Rho} {μ1 : Store} (hws : ws.length = fd.ps ∧ ws.all (bdV μ) = true)
    (e1 : evSs C F fd.body (ws.map some ++ List.replicate (fd.n - fd.ps) none) μ = some (fl, ρ', μ1)) : ∃ f : Addr, mg x = some (.ref f) ∧ PySem.W.keepIn K (.ref f) = true ∧
    ∀ (A : Around) (outer : List Env) (s : Shared) (H : Hp) (us : List Value) (vs : List V) (Q : VK) (Fr : Hp) (M : Nat → Addr) (G : Hp), Room (k + 1) A → A.guards = some [] → Env0 P w K mg base A outer s H → Vals vs us →
      SS K Fr M G H μ → RVs K M G vs ws → (∀ M' H' G', Le G G' → SS K Fr M' G' H' μ1 → Xt M μ.length M' μ1.length → match fl with | .nx => Q .non H' | .ret w => ∀ u, RV K M' G' u w → Q u H' | _ => False) →
      codeAny (model P w) A (.call (.ref f) ⟨us, []⟩) (CR CX0 outer P w H s Q E0) s := by
  obtain ⟨N, ps, st, f, fdat, hm, DF, S, hb, hck, hps, hn⟩ := D.ex
  refine ⟨f, hm, DF.kp, ?_⟩
  obtain ⟨oc, od, kV, doc, pm, an, cdv, ct, osl, rfl, lk, hcd⟩ := DF.ex
  intro A outer s H us vs Q Fr M G hr hgr e0 rv ss rws q
  have lv : vs.length = ps.length := by rw [rws.length, hws.1, hps]
  have KX : K.In s.heap := e0.mod.kin.keeps fun b o h => (e0.bs b o h).1
  have lim : s.heap.NoLimit := e0.mod.nolimit.keeps fun b o h => (e0.bs b o h).1
  have par := S.par
  have hk : ∀ y ∈ ps.zip us, (defScope st).names.lookup y.1 = some .local ∨ ((defScope st).names.lookup y.1 = some .cell ∧ ((cellsFrom (s.heap.objs.size + 1) (defScope st).names []).lookup y.1).isSome = true) := by
    rintro ⟨n, v⟩ hy
    rcases par n (List.of_mem_zip hy).1 with h | h
    · exact .inl h
    · exact .inr ⟨h, PySem.W.cellsFrom_some _ _ _ (.inl h)⟩
  have hbind := hb s us KX (by rw [List.append_nil, ← rv.length]; exact lv)
  rw [List.append_nil] at hbind
  refine codeAny_call_function hr.depth (KX _ _ lk) rfl S.co S.gen rfl (PySem.W.codeRec_of KX hcd) (hbind _ _ _ _ (wpAny_newFunctionEnv_cells S.kind hk fun env he s1 x1 => ?_))
  subst he
  refine ⟨lim.keeps x1.toInCall.keep, codeAny_func ?_⟩
  have I0 := inv_start (CX := CX0) (E := E0) S hr.hd e0 lv rv x1
  generalize hX : cxOf CX0 P w K mg base N x (defScope st) f cdv A outer s H E0 = X0 at I0
  have I := I0.wish (fun _ _ => False)
  have B : Body X0.nox ⟨N, fns, cons⟩ C k F := by
    subst hX
    exact { N := rfl, nd := S.nd, calm := rfl, room := hr.deeper _, grd := hgr, blt := W.blt, con := W.con, calls := calls, fn := fun _ => rfl, pown := PassesOwn.never, knd := S.kind }
  have sc : X0.nox.env.scope = defScope st := by subst hX; rfl
  have snd := soundSs fd.body X0.nox B (defBody st) (by rw [sc]; exact hck)
  have hK : X0.nox.K = K := by subst hX; rfl
  have len0 : N.length - vs.length = fd.n - fd.ps := by rw [hn, lv, hps]
  have st0 : L2.start N vs = vs.map some ++ List.replicate (fd.n - fd.ps) none := by unfold L2.start; rw [len0]
  have main := snd.run [] s1 (L2.start N vs) H { nx := fun _ H' => Q .non H', rt := Q } I (by
    rw [hK, st0]
    refine ⟨Fr, M, G, _, μ, fl, ρ', μ1, ⟨ss, rr_start rws, bd_start hws.2⟩, e1, fun σ' H' G' M' l a xt => ?_⟩
    have q' := q M' H' G' l a.ss xt
    cases fl with
    | nx => exact q'
    | ret v => exact q'
    | bk => exact q'
    | ct => exact q')
  subst hX
  refine wpAny_mono main (fun f2 s2 h2 => ?_) fun _ _ h2 => h2.elim
  have fin : ∀ {σ2 : L2.St} {H2 : Hp} {v : V} {u : Value}, Inv (cxOf CX0 P w K mg base N x (defScope st) f cdv A outer s H E0).nox [] σ2 H2 s2 → RelV v u → Q v H2 → CE outer P w H s Q u s2 :=
    fun {σ2 H2 v u} J rv' q' => ⟨v, H2, J.os, J.bare, J.base, J.hok, rv', q'⟩
  cases f2 with
  | ret u =>
    obtain ⟨v, σ2, H2, J, rv', q'⟩ := h2
    exact fin J rv' q'
  | next =>
    obtain ⟨σ2, H2, J, q'⟩ := h2
    exact fin (v := .non) (u := .none) J rfl q'
  | brk =>
    obtain ⟨_, _, _, q'⟩ := h2
    exact q'.elim
  | cont =>
    obtain ⟨_, _, _, q'⟩ := h2
    exact q'.elim
theorem run_def {P : Program} {w : World} {K : PySem.W.Frag} {mg : Str → Option Value} {base : Heap} {fns cons : List Str} {C : Cons} {k : Nat} {F : Calls} {x : Str} {fd : FD} (W : World' K mg cons C) (D : DefOk K mg fns cons x fd)
    (calls : CallsOk P w K mg base ⟨[], fns, cons⟩ k F) {ws : List Val} {μ : Store} {r : Val} {μ' : Store} (e : runD C F fd ws μ = some (r, μ')) : ∃ f : Addr, mg x = some (.ref f) ∧ PySem.W.keepIn K (.ref f) = true ∧
    ∀ (A : Around) (outer : List Env) (s : Shared) (H : Hp) (us : List Value) (vs : List V) (Q : VK) (Fr : Hp) (M : Nat → Addr) (G : Hp), Room (k + 1) A → A.guards = some [] → Env0 P w K mg base A outer s H → Vals vs us →
      SS K Fr M G H μ → RVs K M G vs ws → (∀ v H' G', Le G G' → SS K Fr M G' H' μ' → μ'.length = μ.length → RV K M G' v r → Q v H') →
      codeAny (model P w) A (.call (.ref f) ⟨us, []⟩) (CR CX0 outer P w H s Q E0) s := by
  unfold runD at e
  split at e
  rotate_left
  · cases e
  rename_i hws
  obtain ⟨⟨fl, ρ', μ1⟩, e1, e⟩ := bnd e
  obtain ⟨f, hm, kp, run⟩ := run_gen W D calls hws e1
  refine ⟨f, hm, kp, fun A outer s H us vs Q Fr M G hr hgr e0 rv ss rws q => run A outer s H us vs Q Fr M G hr hgr e0 rv ss rws fun M' H' G' l s' xt => ?_⟩
  cases fl with
  | nx =>
    obtain ⟨G2, l2, s2, n2, r2⟩ := endD_ok s' xt (.d (.non : Rp K G' .non .none)) e
    exact q _ H' G2 (l.trans l2) s2 n2 r2
  | ret v =>
    intro u ru
    obtain ⟨G2, l2, s2, n2, r2⟩ := endD_ok s' xt ru e
    exact q _ H' G2 (l.trans l2) s2 n2 r2
  | bk => cases e
  | ct => cases e
theorem run_defM {P : Program} {w : World} {K : PySem.W.Frag} {mg : Str → Option Value} {base : Heap} {fns cons : List Str} {C : Cons} {k : Nat} {F : Calls} {x : Str} {fd : FD} (W : World' K mg cons C) (D : DefOk K mg fns cons x fd)
    (calls : CallsOk P w K mg base ⟨[], fns, cons⟩ k F) {ws : List Val} {μ : Store} {ds : List Mu.D} {μ' : Store} (e : runM C F fd ws μ = some (.d (.list ds), μ')) : ∃ f : Addr, mg x = some (.ref f) ∧ PySem.W.keepIn K (.ref f) = true ∧
    ∀ (A : Around) (outer : List Env) (s : Shared) (H : Hp) (us : List Value) (vs : List V) (Q : VK) (Fr : Hp) (M : Nat → Addr) (G : Hp), Room (k + 1) A → A.guards = some [] → Env0 P w K mg base A outer s H → Vals vs us →
      SS K Fr M G H μ → RVs K M G vs ws → (∀ p zs H' G', Le G G' → SS K Fr M G' H' μ' → μ'.length = μ.length → H' p = some (.lst zs) → G' p = none → Fr p = none → (∀ (i : Nat) (es : List Mu.D), μ'[i]? = some (some es) → M i ≠ p) → RpA K G' zs ds → ds.length ≤ sizeLine → Q (.ref p) H') →
      codeAny (model P w) A (.call (.ref f) ⟨us, []⟩) (CR CX0 outer P w H s Q E0) s := by
  unfold runM at e
  split at e
  rotate_left
  · cases e
  rename_i hws
  obtain ⟨⟨fl, ρ', μ1⟩, e1, e⟩ := bnd e
  obtain ⟨f, hm, kp, run⟩ := run_gen W D calls hws e1
  refine ⟨f, hm, kp, fun A outer s H us vs Q Fr M G hr hgr e0 rv ss rws q => run A outer s H us vs Q Fr M G hr hgr e0 rv ss rws fun M' H' G' l s' xt => ?_⟩
  cases fl with
  | nx => cases e
  | bk => cases e
  | ct => cases e
  | ret v =>
    intro u ru
    cases v with
    | d _ => cases e
    | p i =>
      cases ru
      simp only [endM] at e
      split at e
      · rename_i hi
        split at e
        · rename_i xs hx
          cases e
          have ln : (μ1.take μ.length).length = μ.length := by rw [List.length_take]; have := xt.2; omega
          obtain ⟨zs, h1, h2, z⟩ := s'.cell i _ hx
          refine q (M' i) zs H' G' l ((s'.take μ.length).reM fun j hj => by rw [ln] at hj; exact (xt.1 j hj).symm) ln h1 (s'.out i _ hx) (s'.frM i _ hx) (fun j es ej => ?_) h2 z
          have hj : j < μ.length := by
            have := (List.getElem?_eq_some_iff.mp ej).1
            omega
          rw [List.getElem?_take_of_lt hj] at ej
          rw [← xt.1 j hj]
          intro q2
          have := s'.inj j i _ _ ej hx q2
          omega
        · cases e
      · cases e
theorem calls_ok {P : Program} {w : World} {K : PySem.W.Frag} {mg : Str → Option Value} {base : Heap} {fns cons : List Str} {C : Cons} {fs : List FD} (W : World' K mg cons C)
    (defs : ∀ (j : Nat) (x : Str) (fd : FD), fns[j]? = some x → fs[j]? = some fd → DefOk K mg fns cons x fd) : ∀ k, CallsOk P w K mg base ⟨[], fns, cons⟩ k (callF C fs k)
  | 0 => ⟨fun j x ws μ r μ' hj hb e => by simp [callF] at e, fun j x ws μ ds μ' hj e => by simp [callF] at e⟩
  | k + 1 => ⟨fun j x ws μ r μ' hj hb e => by
    simp only [callF, if_pos hb] at e
    obtain ⟨fd, h1, h2⟩ := bnd e
    exact run_def W (defs j x fd hj h1) (calls_ok W defs k) h2, fun j x ws μ ds μ' hj e => by
    have hb : ¬ (mB + j < mB) := by omega
    simp only [callF, if_neg hb, Nat.add_sub_cancel_left] at e
    obtain ⟨fd, h1, h2⟩ := bnd e
    exact run_defM W (defs j x fd hj h1) (calls_ok W defs k) h2⟩

/-! ### the law -/
theorem vals_int : ∀ {vs : List Value} {ns : List Int}, IntsAre vs ns → Vals (ns.map V.int) vs
  | _, _, .nil => .nil
  | _, _, .cons _ t h => .cons ⟨t, rfl⟩ (vals_int h)
theorem rpA_ints {K : PySem.W.Frag} {H : Hp} : ∀ ns : List Int, RpA K H (ns.map V.int) (ns.map PyData.int)
  | [] => .nil
  | _ :: ns => .cons (.int _) (rpA_ints ns)

/-- the head of the law in the heap behind the top, from an abstract heap that holds the script alone -/
theorem law_at {P : Program} {w : World} {K : PySem.W.Frag} {mg mb : Str → Option Value} {fns cons : List Str} {C : Cons} {fs : List FD} {j k : Nat} {x : Str} {s : Shared} {fa a : Addr} {vs : List Value} {ns : List Int}
    (inK : K.In s.heap) (main : s.heap.Ns mainGlobals mg) (bl : s.heap.Ns builtinsNs mb) (boot : ∀ y : Str, y ≠ "__name__" → mb y = bootBuiltins y) (free : s.heap.NoLimit) (quiet : s.gens = #[])
    (obj : s.heap.get? a = some { cls := .type "list", data := .seq vs.toArray }) (iv : IntsAre vs ns) (room : Room k callerA) (W : World' K mg cons C)
    (defs : ∀ (j : Nat) (x : Str) (fd : FD), fns[j]? = some x → fs[j]? = some fd → DefOk K mg fns cons x fd) (hj : fns[j]? = some x) (hjb : j < mB) (hmg : mg x = some (.ref fa))
    (law : callF C fs k j [.d (.list (ns.map .int))] [] = some (.d (.bool true), []))
    (H : Hp) (only : ∀ b u, H b = some u → b = a ∧ ∃ o ys, u = .frz o (.lst ys)) (rd : LsX K H a (ns.map V.int)) (hz : ns.length ≤ sizeLine) (ok : HOk P w H s.heap) (apart : ∀ b u, H b = some u → K.lookup b = none) :
    codeAny (model P w) callerA (.call (.ref fa) ⟨[.ref a], []⟩) (fun r s' => r = .ok (.ret (.bool true)) ∧ OldK s.heap s'.heap ∧ s'.os = s.os ∧ AllBare s'.gens) s := by
  have hid : ∀ {b : Addr} {o : Obj}, s.heap.get? b = some o → (∀ u, H b = some u → False) → (hidT s.heap H).get? b = some o := fun {b o} e n => hidT_get e (by
    cases q : H b with
    | none => rfl
    | some u => exact (n u q).elim)
  have names : ∀ {b : Addr} {m : Str → Option Value}, s.heap.Ns b m → (hidT s.heap H).Ns b m := by
    rintro b m ⟨o, es, ep, e, d, r⟩
    refine ⟨o, es, ep, hid e fun u q => ?_, d, r⟩
    obtain ⟨rfl, -⟩ := only b u q
    rw [obj] at e
    cases e
    cases d
  have kin : K.In (hidT s.heap H) := fun b o e => hid (inK b o e) fun u q => by rw [apart b u q] at e; cases e
  have md : Mod K mg (hidT s.heap H) := by
    obtain ⟨mc, h1, h2⟩ := free
    exact ⟨kin, names main, ⟨mb, names bl, boot⟩, ⟨mc, names h1, h2⟩⟩
  have env : Env0 P w K mg (hidT s.heap H) callerA [] s H := {
    frames := rfl, mod := md, bs := fun b o e => of_hidT e, bsz := Nat.le_of_eq (hidT_size s.heap H), funs := trivial, frf := fun b hb => absurd (show b ∈ ([] : List Addr) from hb) (by simp), hok := ok, bare := .of_eq quiet }
  obtain ⟨f, hf, kp, run⟩ := (calls_ok (P := P) (w := w) (base := hidT s.heap H) W defs k).1 j x _ _ _ _ hj hjb law
  rw [hmg] at hf
  cases hf
  have ss : SS K (fun _ => none) (fun _ => 0) H H [] := {
    sub := Le.rfl' H, cell := fun i ds e => by simp at e, out := fun i ds e => by simp at e, inj := fun i j ds es e => by simp at e, frm := fun b u e => (by cases e), frG := fun b u e => (by cases e), frM := fun i ds e => by simp at e }
  have arg : RV K (fun _ => 0) H (.ref a) (.d (.list (ns.map .int))) := .d (.lst rd (rpA_ints ns) (by rw [List.length_map]; exact hz))
  have r1 := run callerA [] s H [.ref a] [.ref a] (fun v _ => v = .bl true) (fun _ => none) (fun _ => 0) H room rfl env (.cons rfl .nil) ss (.cons arg .nil) fun v H' G' _ _ _ rv => by
    cases rv with
    | d h => cases h; rfl
  refine codeAny_mono r1 fun r s' h => ?_
  cases r with
  | error e => exact h.elim
  | ok fl =>
  cases fl with
  | ret u =>
    obtain ⟨v, H', os, bare, un, ok', rv, rfl⟩ := h
    have hu : u = Value.bool true := rv
    subst hu
    refine ⟨rfl, OldK.of_keep fun b o e => ?_, os, bare⟩
    cases q : H b with
    | none => exact un.keep b o e q (fun z => absurd (show b ∈ ([] : List Addr) from z) (by simp)) (by simp)
    | some u =>
      obtain ⟨-, ob, ys, rfl⟩ := only b u q
      have old := (ok b _ q).1
      have now := (ok' b _ (un.frzs b ob _ q)).1
      rw [e] at old
      cases old
      exact now
  | next => exact h.elim
  | brk => exact h.elim
  | cont => exact h.elim
/-- the goal that the head leaves, from the law's meaning -/
theorem law_walk {l : PySem.W.OpenLaw} {n : Nat} {q : Program} {loose : List Str} {XP : (Str → Option Value) → Heap → Prop} {YP : World → Heap → Prop} {d : DefRec} {K : Params → PySem.W.Frag} {fns cons : List Str} {C : Cons} {fs : List FD} {j : Nat} {k : Nat}
    (hn : l.most = some n) (hn2 : n ≤ sizeLine) (hdf : d.params.defaults = []) (hr : Room k callerA) (hY : ∀ (w : World) (h : Heap), YP w h → (K w.params).In h) (hj : fns[j]? = some d.name) (hjb : j < mB)
    (defs : ∀ (w : World) (mg : Str → Option Value) (h : Heap), (K w.params).In h → h.Ns mainGlobals mg → World' (K w.params) mg cons C ∧ ∀ (j : Nat) (x : Str) (fd : FD), fns[j]? = some x → fs[j]? = some fd → DefOk (K w.params) mg fns cons x fd)
    (law : ∀ ns : List Int, ns.length ≤ n → (∀ z ∈ ns, Builtin.Int.intBits z ≤ 1048576) → callF C fs k j [.d (.list (ns.map .int))] [] = some (.d (.bool true), [])) :
    PySem.W.WalkO q loose XP YP l.row.toRowW d [] (fun f vs => PySem.call f vs) := by
  refine Att.attach_callB hn hdf fun w s₀ s₁ mg mb fa o pm cd doc a vs ns G Y ho hd hcd hmg hobj hints hlen hbits hg => ?_
  have inK := hY w _ Y
  obtain ⟨W, ds⟩ := defs w mg _ inK G.T.g
  have hz : ns.length ≤ sizeLine := Nat.le_trans hlen hn2
  have go := law_at (P := l.prog) (w := w) (k := k) (x := d.name) inK G.T.g G.T.b G.T.builtins G.T.nolimit hg hobj hints hr W ds hj hjb hmg (law ns hlen hbits)
  have rvs := vals_int hints
  cases hk : (K w.params).lookup a with
  | some o =>
    have e := inK a o hk
    rw [hobj] at e
    cases e
    refine go (fun _ => none) (fun b u z => by cases z) (.inr ⟨vs.toArray, _, hk, ?_, by simpa using rvs⟩) hz (fun b u z => by cases z) fun b u z => by cases z
    rw [List.size_toArray, hints.length]
    exact hz
  | none =>
    have key : ∀ b u, (if b = a then some (HO.frz { cls := .type "list", data := .seq vs.toArray } (.lst (ns.map V.int))) else none) = some u → b = a ∧ u = .frz { cls := .type "list", data := .seq vs.toArray } (.lst (ns.map V.int)) := fun b u z => by
      by_cases hb : b = a
      · rw [if_pos hb] at z
        cases z
        exact ⟨hb, rfl⟩
      · rw [if_neg hb] at z
        cases z
    refine go (fun b => if b = a then some (.frz { cls := .type "list", data := .seq vs.toArray } (.lst (ns.map V.int))) else none) (fun b u z => ?_) (.inl (.inr ⟨{ cls := .type "list", data := .seq vs.toArray }, if_pos rfl⟩)) hz (fun b u z => ?_) fun b u z => ?_
    · obtain ⟨h1, rfl⟩ := key b u z
      exact ⟨h1, _, _, rfl⟩
    · obtain ⟨rfl, rfl⟩ := key b u z
      exact ⟨hobj, by rw [List.length_map]; exact hz, vs, _, rvs, hobj⟩
    · obtain ⟨rfl, -⟩ := key b u z
      exact hk
end Mu

namespace Mu
open PySem PySem.Spec
open PyProof.Rows L2

/-! ### from what the top has written to the facts of the defs -/
theorem dk_mk {K : PySem.W.Frag} {h : Heap} {mg : Str → Option Value} {fns cons : List Str} {x : Str} {st : Stmt} {N ps : List Str} {fd : FD} (X : K.In h) (G : h.Ns mainGlobals mg)
    (sc : FnScope N ps (defScope st)) (ck : ckSs ⟨N, fns, cons⟩ (defScope st) fd.body (defBody st) = true) (hp : ps.length = fd.ps) (hn : N.length = fd.n)
    (bind : ∀ (kV doc pm : Value) (an : Option Addr) (cdv ct : Value) (us : List Value), us.length = ps.length → bindArgs (PySem.W.fnOf x x (defArgs st) (defBody st) (defScope st) .none kV doc pm an cdv ct) ⟨us, []⟩ = pure (ps.zip us))
    {f : Addr} {od an : Option Addr} {sl : Array (Option Value)} {oc kV dc pm cd ct : Value} (a : PySem.W.nsIn K mainGlobals x = some (some (.ref f)))
    (l : K.lookup f = some ⟨oc, od, .func (PySem.W.fnOf x x (defArgs st) (defBody st) (defScope st) .none kV dc pm an cd ct), sl⟩) (c : PySem.W.codeIn K cd x = true) (k : PySem.W.keepIn K (.ref f) = true) : DefOk K mg fns cons x fd :=
  have F := fun_mk (st := st) l c k
  ⟨N, ps, st, f, _, PySem.W.mg_of X G a, F, sc, F.binds bind, ck, hp, hn⟩
def AllOk (K : PySem.W.Frag) (mg : Str → Option Value) (fns cons : List Str) : List Str → List FD → Prop
  | x :: xs, d :: ds => DefOk K mg fns cons x d ∧ AllOk K mg fns cons xs ds
  | _, _ => True
theorem AllOk.get {K : PySem.W.Frag} {mg : Str → Option Value} {fns cons : List Str} : ∀ {xs : List Str} {ds : List FD}, AllOk K mg fns cons xs ds → ∀ (j : Nat) (x : Str) (fd : FD), xs[j]? = some x → ds[j]? = some fd → DefOk K mg fns cons x fd
  | [], _, _, _, _, _, e, _ => by simp at e
  | _ :: _, [], _, _, _, _, _, e => by simp at e
  | x :: xs, d :: ds, h, 0, _, _, e1, e2 => by
    simp at e1 e2
    subst e1 e2
    exact h.1
  | x :: xs, d :: ds, h, j + 1, _, _, e1, e2 => AllOk.get h.2 j _ _ (by simpa using e1) (by simpa using e2)
/-- a constant of the text -/
def ConOk (K : PySem.W.Frag) (mg : Str → Option Value) (x : Str) (d : D) : Prop := ∃ u v, mg x = some u ∧ RelV v u ∧ Rp K (fun _ => none) v d
def AllCon (K : PySem.W.Frag) (mg : Str → Option Value) : List Str → List D → Prop
  | x :: xs, d :: ds => ConOk K mg x d ∧ AllCon K mg xs ds
  | _, _ => True
theorem AllCon.get {K : PySem.W.Frag} {mg : Str → Option Value} : ∀ {xs : List Str} {ds : List D}, AllCon K mg xs ds → ∀ (j : Nat) (x : Str) (d : D), xs[j]? = some x → ds[j]? = some d → ConOk K mg x d
  | [], _, _, _, _, _, e, _ => by simp at e
  | _ :: _, [], _, _, _, _, _, e => by simp at e
  | x :: xs, d :: ds, h, 0, _, _, e1, e2 => by
    simp at e1 e2
    subst e1 e2
    exact h.1
  | x :: xs, d :: ds, h, j + 1, _, _, e1, e2 => AllCon.get h.2 j _ _ (by simpa using e1) (by simpa using e2)
/-- a value that the top has written, as data -/
def CV (K : PySem.W.Frag) (u : Value) (d : D) : Prop := ∃ v, RelV v u ∧ Rp K (fun _ => none) v d
theorem cv_int (K : PySem.W.Frag) (i : Int) (t : Nat) : CV K (.int i t) (.int i) := ⟨.int i, ⟨t, rfl⟩, .int i⟩
theorem cv_str (K : PySem.W.Frag) (x : Str) (t : Nat) : CV K (.str x t) (.str x) := ⟨.str x, ⟨t, rfl⟩, .str x⟩
theorem cv_bool (K : PySem.W.Frag) (b : Bool) : CV K (.bool b) (.bool b) := ⟨.bl b, rfl, .bl b⟩
theorem cv_none (K : PySem.W.Frag) : CV K .none .none := ⟨.non, rfl, .non⟩
inductive CVs (K : PySem.W.Frag) : List Value → List D → Prop where
  | nil : CVs K [] []
  | cons {u : Value} {d : D} {us : List Value} {ds : List D} (h : CV K u d) (t : CVs K us ds) : CVs K (u :: us) (d :: ds)
theorem cvs_all {K : PySem.W.Frag} : ∀ {us : List Value} {ds : List D}, CVs K us ds → ∃ vs, Vals vs us ∧ RpA K (fun _ => none) vs ds
  | _, _, .nil => ⟨[], .nil, .nil⟩
  | _, _, .cons ⟨v, h1, h2⟩ t =>
    let ⟨vs, t1, t2⟩ := cvs_all t
    ⟨v :: vs, .cons h1 t1, .cons h2 t2⟩
theorem cv_tup {K : PySem.W.Frag} {a : Addr} {od : Option Addr} {its : Array Value} {n : Nat} {sl : Array (Option Value)} {ds : List D} (l : K.lookup a = some ⟨.type "tuple", od, .seq its n, sl⟩) (h : CVs K its.toList ds) (z : ds.length ≤ sizeLine) : CV K (.ref a) (.tuple ds) := by
  obtain ⟨vs, h1, h2⟩ := cvs_all h
  have e : its.size = ds.length := by
    have q1 := h1.length
    have q2 := h2.length
    simp at q1
    omega
  exact ⟨.ref a, rfl, .tup (.inr ⟨_, its, n, l, rfl, rfl, by omega, h1⟩) h2 z⟩
theorem con_mk {K : PySem.W.Frag} {h : Heap} {mg : Str → Option Value} {x : Str} {u : Value} {d : D} (X : K.In h) (G : h.Ns mainGlobals mg) (a : PySem.W.nsIn K mainGlobals x = some (some u)) (c : CV K u d) : ConOk K mg x d :=
  let ⟨v, h1, h2⟩ := c
  ⟨u, v, PySem.W.mg_of X G a, h1, h2⟩
theorem blt_mk {K : PySem.W.Frag} {h : Heap} {mg : Str → Option Value} (X : K.In h) (G : h.Ns mainGlobals mg) (z1 : PySem.W.nsIn K mainGlobals "len" = some none) (z2 : PySem.W.nsIn K mainGlobals "tuple" = some none) (z3 : PySem.W.nsIn K mainGlobals "list" = some none) (z4 : PySem.W.nsIn K mainGlobals "int" = some none)
    (z5 : PySem.W.nsIn K mainGlobals "bool" = some none) (z6 : PySem.W.nsIn K mainGlobals "all" = some none) (z7 : PySem.W.nsIn K mainGlobals "any" = some none) (z8 : PySem.W.nsIn K mainGlobals "max" = some none) (z9 : PySem.W.nsIn K mainGlobals "min" = some none) (z10 : PySem.W.nsIn K mainGlobals "sum" = some none)
    (z11 : PySem.W.nsIn K mainGlobals "repr" = some none) (z12 : PySem.W.nsIn K mainGlobals "isinstance" = some none) (z13 : PySem.W.nsIn K mainGlobals "str" = some none) (z14 : PySem.W.nsIn K mainGlobals "dict" = some none) (z15 : PySem.W.nsIn K mainGlobals "range" = some none) : ∀ x ∈ bltNames, mg (x : Str) = none := by
  intro x hx
  simp only [bltNames, List.mem_cons, List.not_mem_nil, or_false] at hx
  rcases hx with rfl | rfl | rfl | rfl | rfl | rfl | rfl | rfl | rfl | rfl | rfl | rfl | rfl | rfl | rfl
  · exact PySem.W.mg_none_of X G z1
  · exact PySem.W.mg_none_of X G z2
  · exact PySem.W.mg_none_of X G z3
  · exact PySem.W.mg_none_of X G z4
  · exact PySem.W.mg_none_of X G z5
  · exact PySem.W.mg_none_of X G z6
  · exact PySem.W.mg_none_of X G z7
  · exact PySem.W.mg_none_of X G z8
  · exact PySem.W.mg_none_of X G z9
  · exact PySem.W.mg_none_of X G z10
  · exact PySem.W.mg_none_of X G z11
  · exact PySem.W.mg_none_of X G z12
  · exact PySem.W.mg_none_of X G z13
  · exact PySem.W.mg_none_of X G z14
  · exact PySem.W.mg_none_of X G z15
end Mu

/-! meanings, step by step -/
namespace Mu
open PySem
variable {C : Cons} {F : Calls} {ρ : Rho} {μ : Store}

section
variable (C : Cons) (F : Calls) (ρ : Rho) (μ : Store)
@[simp] theorem evE_var (i : Nat) : evE C F (.var i) ρ μ = match ρ[i]? with | some (some v) => some (v, μ) | _ => none := by
  first
    | (simp only [evE]; rfl)
    | simp only [evE]
@[simp] theorem evE_non : evE C F .non ρ μ = some (.d .none, μ) := by simp only [evE]
@[simp] theorem evE_bl (b : Bool) : evE C F (.bl b) ρ μ = some (.d (.bool b), μ) := by simp only [evE]
@[simp] theorem evE_int (i : Int) : evE C F (.int i) ρ μ = some (.d (.int i), μ) := by simp only [evE]
@[simp] theorem evE_str (s : String) : evE C F (.str s) ρ μ = some (.d (.str s), μ) := by simp only [evE]
@[simp] theorem evE_con (x : String) (n : Nat) : evE C F (.con x n) ρ μ = (C n).map fun x => (.d x, μ) := by simp only [evE]
@[simp] theorem evE_tup (es : Es) : evE C F (.tup es) ρ μ = (evEs C F es ρ μ).bind fun r => some (.d (.tuple r.1), r.2) := by simp only [evE]
@[simp] theorem evE_lst (es : Es) : evE C F (.lst es) ρ μ = (evEs C F es ρ μ).bind fun r => some (.d (.list r.1), r.2) := by simp only [evE]
@[simp] theorem evE_dct (n : Nat) : evE C F (.dct n) ρ μ = some (.d (.dict []), μ) := by simp only [evE]
@[simp] theorem evE_rep (es : Es) (k : E) : evE C F (.rep es k) ρ μ = (evEs C F es ρ μ).bind fun r => (toI (evE C F k ρ r.2)).bind fun q => if -(2 ^ 63) ≤ q.1 ∧ q.1 < 2 ^ 63 ∧ r.1.length * q.1.toNat ≤ sizeLine then some (.d (.list (List.flatten (List.replicate q.1.toNat r.1))), q.2) else none := by simp only [evE]
@[simp] theorem evE_bop (o : BOp) (a b : E) : evE C F (.bop o a b) ρ μ = (evE C F a ρ μ).bind fun r => (evE C F b ρ r.2).bind fun q => rd2 q.2 r.1 q.1 (bopD o) := by simp only [evE]
@[simp] theorem evE_neg (a : E) : evE C F (.neg a) ρ μ = (toI (evE C F a ρ μ)).bind fun r => some (.d (.int (-r.1)), r.2) := by simp only [evE]
@[simp] theorem evE_inot (a : E) : evE C F (.inot a) ρ μ = (toT (evE C F a ρ μ)).bind fun r => some (.d (.bool (!r.1)), r.2) := by simp only [evE]
@[simp] theorem evE_cmp (o : COp) (a b : E) : evE C F (.cmp o a b) ρ μ = (evE C F a ρ μ).bind fun r => (evE C F b ρ r.2).bind fun q => rd2 q.2 r.1 q.1 (cmpD o) := by simp only [evE]
@[simp] theorem evE_chn (o p : COp) (a b c : E) : evE C F (.chn o p a b c) ρ μ = (evE C F a ρ μ).bind fun r => (evE C F b ρ r.2).bind fun q => (toB (rd2 q.2 r.1 q.1 (cmpD o))).bind fun t => if t.1 = true then (evE C F c ρ t.2).bind fun u => rd2 u.2 q.1 u.1 (cmpD p) else some (.d (.bool false), t.2) := by simp only [evE]
@[simp] theorem evE_isN (a : E) : evE C F (.isN a) ρ μ = (evE C F a ρ μ).bind fun r => some (.d (.bool (noneV r.1)), r.2) := by simp only [evE]
@[simp] theorem evE_notN (a : E) : evE C F (.notN a) ρ μ = (evE C F a ρ μ).bind fun r => some (.d (.bool (!noneV r.1)), r.2) := by simp only [evE]
@[simp] theorem evE_band (es : Es) : evE C F (.band es) ρ μ = (evAnd C F es ρ μ).map fun r => (.d (.bool r.1), r.2) := by simp only [evE]
@[simp] theorem evE_bor (es : Es) : evE C F (.bor es) ρ μ = (evOr C F es ρ μ).map fun r => (.d (.bool r.1), r.2) := by simp only [evE]
@[simp] theorem evE_ite (c a b : E) : evE C F (.ite c a b) ρ μ = (toT (evE C F c ρ μ)).bind fun r => if r.1 = true then evE C F a ρ r.2 else evE C F b ρ r.2 := by simp only [evE]
@[simp] theorem evE_idx (a i : E) : evE C F (.idx a i) ρ μ = (evE C F a ρ μ).bind fun r => (evE C F i ρ r.2).bind fun q => rd2 q.2 r.1 q.1 idxD := by simp only [evE]
@[simp] theorem evE_sli (a : E) (lo hi : Oe) : evE C F (.sli a lo hi) ρ μ = (evE C F a ρ μ).bind fun r => (evO C F lo ρ r.2).bind fun q => (evO C F hi ρ q.2).bind fun u => rd1 u.2 r.1 fun x => sliD x q.1 u.1 := by simp only [evE]
@[simp] theorem evE_isi (a : E) (c : Cls) : evE C F (.isi a c) ρ μ = (evE C F a ρ μ).bind fun r => rd1 r.2 r.1 fun x => some (.bool (isiD x c)) := by simp only [evE]
@[simp] theorem evE_call (f : Nat) (es : Es) : evE C F (.call f es) ρ μ = (evVs C F es ρ μ).bind fun r => F f r.1 r.2 := by simp only [evE]
@[simp] theorem evE_callM (f : Nat) (es : Es) : evE C F (.callM f es) ρ μ = (evVs C F es ρ μ).bind fun r => newL (F (mB + f) r.1 r.2) := by simp only [evE]
@[simp] theorem evE_bi (b : BI) (e : E) : evE C F (.bi b e) ρ μ = (evE C F e ρ μ).bind fun r => rd1 r.2 r.1 (biD b) := by simp only [evE]
@[simp] theorem evEs_nil : evEs C F .nil ρ μ = some ([], μ) := by simp only [evEs]
@[simp] theorem evEs_cons (e : E) (es : Es) : evEs C F (.cons e es) ρ μ = (toF (evE C F e ρ μ)).bind fun r => (evEs C F es ρ r.2).bind fun q => some (r.1 :: q.1, q.2) := by simp only [evEs]
@[simp] theorem evVs_nil : evVs C F .nil ρ μ = some ([], μ) := by simp only [evVs]
@[simp] theorem evVs_cons (e : E) (es : Es) : evVs C F (.cons e es) ρ μ = (evE C F e ρ μ).bind fun r => (evVs C F es ρ r.2).bind fun q => some (r.1 :: q.1, q.2) := by simp only [evVs]
@[simp] theorem evAnd_one (e : E) : evAnd C F (.cons e .nil) ρ μ = toB (evE C F e ρ μ) := by simp only [evAnd]
@[simp] theorem evAnd_two (e e' : E) (es : Es) : evAnd C F (.cons e (.cons e' es)) ρ μ = (toB (evE C F e ρ μ)).bind fun r => if r.1 = true then evAnd C F (.cons e' es) ρ r.2 else some (false, r.2) := by rw [evAnd]
@[simp] theorem evOr_one (e : E) : evOr C F (.cons e .nil) ρ μ = toB (evE C F e ρ μ) := by simp only [evOr]
@[simp] theorem evOr_two (e e' : E) (es : Es) : evOr C F (.cons e (.cons e' es)) ρ μ = (toB (evE C F e ρ μ)).bind fun r => if r.1 = true then some (true, r.2) else evOr C F (.cons e' es) ρ r.2 := by rw [evOr]
@[simp] theorem evCs_nil : evCs C F .nil ρ μ = some (true, μ) := by simp only [evCs]
@[simp] theorem evCs_one (e : E) : evCs C F (.cons e .nil) ρ μ = toT (evE C F e ρ μ) := by simp only [evCs]
@[simp] theorem evO_no : evO C F .no ρ μ = some (none, μ) := by simp only [evO]
@[simp] theorem evO_so (e : E) : evO C F (.so e) ρ μ = (toI (evE C F e ρ μ)).bind fun r => some (some r.1, r.2) := by simp only [evO]
theorem evI_rng (e : E) : evI C F (.rng e) ρ μ = (toI (evE C F e ρ μ)).bind fun r => if rngOk 0 r.1 = true then some ((rngD 0 r.1, .d .none), r.2) else none := by simp only [evI]
theorem evI_rng2 (e e' : E) : evI C F (.rng2 e e') ρ μ = (toI (evE C F e ρ μ)).bind fun r => (toI (evE C F e' ρ r.2)).bind fun q => if rngOk r.1 q.1 = true then some ((rngD r.1 q.1, .d .none), q.2) else none := by simp only [evI]
def itD (v : Val) (μ : Store) : D → Option ((List D × Val) × Store)
  | .list xs => some ((xs, v), μ)
  | .tuple xs => some ((xs, v), μ)
  | _ => none
@[simp] theorem itD_list (v : Val) (μ : Store) (xs : List D) : itD v μ (.list xs) = some ((xs, v), μ) := rfl
@[simp] theorem itD_tuple (v : Val) (μ : Store) (xs : List D) : itD v μ (.tuple xs) = some ((xs, v), μ) := rfl
@[simp] theorem evI_seq (e : E) : evI C F (.seq e) ρ μ = (evE C F e ρ μ).bind fun r => (deref r.2 r.1).bind (itD r.1 r.2) := by
  simp only [evI]
  congr 1
@[simp] theorem evSs_nil : evSs C F [] ρ μ = some (.nx, ρ, μ) := by simp only [evSs]
def nxt (g : Rho → Store → Option (Flow × RS)) : Flow × RS → Option (Flow × RS)
  | (.nx, x) => g x.1 x.2
  | (f, x) => some (f, x)
@[simp] theorem nxt_nx (g : Rho → Store → Option (Flow × RS)) (ρ : Rho) (μ : Store) : nxt g (.nx, ρ, μ) = g ρ μ := rfl
@[simp] theorem nxt_ret (g : Rho → Store → Option (Flow × RS)) (v : Val) (x : RS) : nxt g (.ret v, x) = some (.ret v, x) := rfl
@[simp] theorem nxt_bk (g : Rho → Store → Option (Flow × RS)) (x : RS) : nxt g (.bk, x) = some (.bk, x) := rfl
@[simp] theorem nxt_ct (g : Rho → Store → Option (Flow × RS)) (x : RS) : nxt g (.ct, x) = some (.ct, x) := rfl
@[simp] theorem evSs_cons (s : S) (r : List S) : evSs C F (s :: r) ρ μ = (evS C F s ρ μ).bind (nxt fun ρ μ => evSs C F r ρ μ) := by
  simp only [evSs]
  congr 1
  funext ⟨f, x⟩
  cases f <;> rfl
@[simp] theorem evS_set (i : Nat) (e : E) : evS C F (.set i e) ρ μ = (evE C F e ρ μ).bind fun r => if bdV r.2 r.1 = true then some (.nx, ρ.set i (some r.1), r.2) else none := by simp only [evS]
def mkM (ρ : Rho) (i : Nat) : Val × Store → Option (Flow × RS)
  | (.d (.list xs), μ1) => some (.nx, ρ.set i (some (.p μ1.length)), μ1 ++ [some xs])
  | _ => none
@[simp] theorem mkM_list (ρ : Rho) (i : Nat) (xs : List D) (μ1 : Store) : mkM ρ i (.d (.list xs), μ1) = some (.nx, ρ.set i (some (.p μ1.length)), μ1 ++ [some xs]) := rfl
@[simp] theorem evS_setM (i : Nat) (e : E) : evS C F (.setM i e) ρ μ = (evE C F e ρ μ).bind (mkM ρ i) := by
  simp only [evS]
  congr 1
  funext ⟨v, m⟩
  rcases v with d | j
  · cases d <;> rfl
  · rfl
def reM (ρ : Rho) : Val × Store → Option (Flow × RS)
  | (.d (.list xs), μ1) => some (.ret (.p μ1.length), ρ, μ1 ++ [some xs])
  | _ => none
@[simp] theorem reM_list (ρ : Rho) (xs : List D) (μ1 : Store) : reM ρ (.d (.list xs), μ1) = some (.ret (.p μ1.length), ρ, μ1 ++ [some xs]) := rfl
@[simp] theorem evS_retM (e : E) : evS C F (.retM e) ρ μ = (evE C F e ρ μ).bind (reM ρ) := by
  simp only [evS]
  congr 1
  funext ⟨v, m⟩
  rcases v with d | j
  · cases d <;> rfl
  · rfl
@[simp] theorem evS_ret (e : E) : evS C F (.ret e) ρ μ = (evE C F e ρ μ).bind fun r => some (.ret r.1, ρ, r.2) := by simp only [evS]
@[simp] theorem evS_retN : evS C F .retN ρ μ = some (.ret (.d .none), ρ, μ) := by simp only [evS]
@[simp] theorem evS_put (a i e : E) : evS C F (.put a i e) ρ μ = (toF (evE C F e ρ μ)).bind fun r => (evE C F a ρ r.2).bind fun q => (toI (evE C F i ρ q.2)).bind fun t => (putV t.2 q.1 t.1 r.1).map fun m => (.nx, ρ, m) := by simp only [evS]
@[simp] theorem evS_put2 (a i b j e d : E) : evS C F (.put2 a i b j e d) ρ μ = (toF (evE C F e ρ μ)).bind fun y => (toF (evE C F d ρ y.2)).bind fun z => (evE C F a ρ z.2).bind fun v => (toI (evE C F i ρ v.2)).bind fun k => (putV k.2 v.1 k.1 y.1).bind fun μ5 =>
      (evE C F b ρ μ5).bind fun w => (toI (evE C F j ρ w.2)).bind fun l => (putV l.2 w.1 l.1 z.1).map fun μ8 => (.nx, ρ, μ8) := by simp only [evS]
@[simp] theorem evS_ife (c : E) (a b : List S) : evS C F (.ife c a b) ρ μ = (toT (evE C F c ρ μ)).bind fun r => if r.1 = true then evSs C F a ρ r.2 else evSs C F b ρ r.2 := by simp only [evS]
end

theorem rng_ok {C : Cons} {F : Calls} {ρ : Rho} {μ μ1 : Store} {e : E} {b : Int} (h : evE C F e ρ μ = some (.d (.int b), μ1)) (hr : rngOk 0 b = true) : evI C F (.rng e) ρ μ = some ((rngD 0 b, .d .none), μ1) := by
  rw [evI_rng, h]
  show (if rngOk 0 b = true then _ else _) = _
  rw [if_pos hr]
theorem rng2_ok {C : Cons} {F : Calls} {ρ : Rho} {μ μ1 μ2 : Store} {e e' : E} {a b : Int} (h : evE C F e ρ μ = some (.d (.int a), μ1)) (h' : evE C F e' ρ μ1 = some (.d (.int b), μ2)) (hr : rngOk a b = true) : evI C F (.rng2 e e') ρ μ = some ((rngD a b, .d .none), μ2) := by
  rw [evI_rng2, h]
  show (toI (evE C F e' ρ μ1)).bind _ = _
  rw [h']
  show (if rngOk a b = true then _ else _) = _
  rw [if_pos hr]
/-! ### small steps -/
@[simp] theorem toD_d (x : D) (μ : Store) : toD (some (.d x, μ)) = some (x, μ) := rfl
@[simp] theorem toB_b (b : Bool) (μ : Store) : toB (some (.d (.bool b), μ)) = some (b, μ) := rfl
@[simp] theorem toI_i (i : Int) (μ : Store) : toI (some (.d (.int i), μ)) = some (i, μ) := rfl
@[simp] theorem toF_d (x : D) (μ : Store) : toF (some (.d x, μ)) = some (x, μ) := rfl
@[simp] theorem toT_b (b : Bool) (μ : Store) : toT (some (.d (.bool b), μ)) = some (b, μ) := rfl
@[simp] theorem deref_d (x : D) (μ : Store) : deref μ (.d x) = some x := rfl
@[simp] theorem rd1_d (x : D) (μ : Store) (f : D → Option D) : rd1 μ (.d x) f = (f x).map fun z => (.d z, μ) := rfl
@[simp] theorem rd2_d (x y : D) (μ : Store) (f : D → D → Option D) : rd2 μ (.d x) (.d y) f = (f x y).map fun z => (.d z, μ) := rfl
@[simp] theorem bdV_dd (x : D) (μ : Store) : bdV μ (.d x) = true := rfl
@[simp] theorem noneV_none : noneV (.d .none) = true := rfl
@[simp] theorem newL_list (xs : List D) (μ : Store) : newL (some (.d (.list xs), μ)) = some (.d (.list xs), μ) := rfl
@[simp] theorem deref_p0 (xs : List D) (r : Store) : deref (some xs :: r) (.p 0) = some (.list xs) := rfl

/-! ### a call -/
theorem endD_d (μ : Store) (x : D) : endD μ (.d x) μ = some (.d x, μ) := by simp [endD]
theorem endD_d' {μ μ1 : Store} (x : D) (h : μ1.take μ.length = μ) (h2 : μ.length ≤ μ1.length) : endD μ (.d x) μ1 = some (.d x, μ) := by simp [endD, h, h2]

/-! ### comprehensions -/
theorem compL_pure {ok : Store → Prop} {f : D → Store → Option (List D × Store)} {μ : Store} (g : D → List D) (hok : ok μ) : ∀ {xs : List D}, (∀ x ∈ xs, f x μ = some (g x, μ)) → compL ok f xs μ = some (xs.flatMap g, μ)
  | [], _ => by simp [compL, hok]
  | x :: xs, h => by
    have h1 := h x List.mem_cons_self
    have h2 := compL_pure g hok (xs := xs) fun y hy => h y (List.mem_cons_of_mem _ hy)
    simp [compL, hok, h1, h2]
/-- a comprehension that changes nothing -/
theorem ev_comp {own : List Nat} {tg : Tg} {it : It} {cs : Es} {elt : E} {xs : List D} {w : D} {μ1 : Store} (c : D → Bool) (g : D → D) (hi : evI C F it ρ μ = some ((xs, .d w), μ1))
    (h : ∀ x ∈ xs, ∃ ρ1, tgS (wipeR ρ own) tg x = some ρ1 ∧ evCs C F cs ρ1 μ1 = some (c x, μ1) ∧ (c x = true → evE C F elt ρ1 μ1 = some (.d (g x), μ1))) :
    evE C F (.comp own tg it cs elt) ρ μ = some (.d (.list ((xs.filter c).map g)), μ1) := by
  simp only [evE, hi, Option.bind_some]
  rw [compL_pure (fun x => if c x = true then [g x] else []) trivial]
  · simp only [Option.bind_some]
    congr 3
    induction xs with
    | nil => rfl
    | cons x xs ih =>
      have ih' : List.flatMap (fun x => if c x = true then [g x] else []) xs = List.map g (List.filter c xs) := by
        clear ih hi h
        induction xs with
        | nil => rfl
        | cons y ys ih => cases e : c y <;> simp [e, ih]
      cases e : c x <;> simp [e, ih']
  · intro x hx
    obtain ⟨ρ1, e1, e2, e3⟩ := h x hx
    cases e : c x with
    | false => simp [e1, e2, e]
    | true => simp [e1, e2, e, e3 e]
/-- .. that takes all -/
theorem ev_map {own : List Nat} {tg : Tg} {it : It} {elt : E} {xs : List D} {w : D} {μ1 : Store} (g : D → D) (hi : evI C F it ρ μ = some ((xs, .d w), μ1))
    (h : ∀ x ∈ xs, ∃ ρ1, tgS (wipeR ρ own) tg x = some ρ1 ∧ evE C F elt ρ1 μ1 = some (.d (g x), μ1)) :
    evE C F (.comp own tg it .nil elt) ρ μ = some (.d (.list (xs.map g)), μ1) := by
  have e := ev_comp (cs := .nil) (fun _ => true) g hi fun x hx => let ⟨ρ1, h1, h2⟩ := h x hx; ⟨ρ1, h1, by simp, fun _ => h2⟩
  rw [e]
  have : xs.filter (fun _ => true) = xs := List.filter_eq_self.mpr fun _ _ => rfl
  rw [this]
/-- what the turns gave -/
inductive FM (R : D → List D → Prop) : List D → List D → Prop where
  | nil : FM R [] []
  | cons {x : D} {zs : List D} {xs ys : List D} (h : R x zs) (t : FM R xs ys) : FM R (x :: xs) (zs ++ ys)
theorem compL_inv {ok : Store → Prop} {f : D → Store → Option (List D × Store)} (I : Store → Prop) (R : D → List D → Prop) (hok : ∀ μ, I μ → ok μ) : ∀ {xs : List D} {μ : Store}, I μ →
    (∀ x ∈ xs, ∀ μ, I μ → ∃ zs μ', f x μ = some (zs, μ') ∧ I μ' ∧ R x zs) → ∃ ys μ', compL ok f xs μ = some (ys, μ') ∧ I μ' ∧ FM R xs ys
  | [], μ, h0, _ => ⟨[], μ, by simp [compL, hok μ h0], h0, .nil⟩
  | x :: xs, μ, h0, h => by
    obtain ⟨zs, μ1, e1, i1, r1⟩ := h x List.mem_cons_self μ h0
    obtain ⟨ys, μ2, e2, i2, r2⟩ := compL_inv I R hok (xs := xs) i1 fun y hy => h y (List.mem_cons_of_mem _ hy)
    exact ⟨zs ++ ys, μ2, by simp [compL, hok μ h0, e1, e2], i2, .cons r1 r2⟩
/-- a comprehension with an invariant -/
theorem ev_compI {own : List Nat} {tg : Tg} {it : It} {cs : Es} {elt : E} {xs : List D} {w : D} {μ1 : Store} (I : Store → Prop) (R : D → List D → Prop) (hi : evI C F it ρ μ = some ((xs, .d w), μ1)) (h0 : I μ1)
    (h : ∀ x ∈ xs, ∀ μ, I μ → ∃ ρ1, tgS (wipeR ρ own) tg x = some ρ1 ∧ ∃ c μ2, evCs C F cs ρ1 μ = some (c, μ2) ∧ ((c = true ∧ ∃ y μ3, toF (evE C F elt ρ1 μ2) = some (y, μ3) ∧ I μ3 ∧ R x [y]) ∨ (c = false ∧ I μ2 ∧ R x []))) :
    ∃ ys μ', evE C F (.comp own tg it cs elt) ρ μ = some (.d (.list ys), μ') ∧ I μ' ∧ FM R xs ys := by
  obtain ⟨ys, μ', e, i, r⟩ := compL_inv (ok := Still (.d w) xs) (f := fun x μ1 => (tgS (wipeR ρ own) tg x).bind fun ρ1 => (evCs C F cs ρ1 μ1).bind fun (k, μ2) =>
        if k = true then (toF (evE C F elt ρ1 μ2)).bind fun (y, μ3) => some ([y], μ3) else some ([], μ2)) I R (fun _ _ => trivial) h0 (fun x hx μ hμ => by
    obtain ⟨ρ1, e1, c, μ2, e2, h⟩ := h x hx μ hμ
    rcases h with ⟨rfl, y, μ3, e3, i3, r3⟩ | ⟨rfl, i3, r3⟩
    · exact ⟨[y], μ3, by simp [e1, e2, e3], i3, r3⟩
    · exact ⟨[], μ2, by simp [e1, e2], i3, r3⟩)
  refine ⟨ys, μ', ?_, i, r⟩
  simp only [evE, hi, Option.bind_some]
  rw [e]
  rfl
theorem FM.all {R : D → List D → Prop} {P : D → Prop} (h : ∀ x zs, R x zs → ∀ z ∈ zs, P z) : ∀ {xs ys : List D}, FM R xs ys → ∀ y ∈ ys, P y
  | _, _, .nil, _, hy => by cases hy
  | _, _, .cons r t, y, hy => by
    rcases List.mem_append.mp hy with hy | hy
    · exact h _ _ r y hy
    · exact t.all h y hy
theorem FM.len {R : D → List D → Prop} (h : ∀ x zs, R x zs → zs.length = 1) : ∀ {xs ys : List D}, FM R xs ys → ys.length = xs.length
  | _, _, .nil => rfl
  | _, _, .cons r t => by simp [h _ _ r, t.len h]; omega
theorem FM.le {R : D → List D → Prop} (h : ∀ x zs, R x zs → zs.length ≤ 1) : ∀ {xs ys : List D}, FM R xs ys → ys.length ≤ xs.length
  | _, _, .nil => by simp
  | _, _, .cons r t => by
    have := h _ _ r
    have := t.le h
    simp; omega

/-! ### loops -/
theorem forO_inv {α : Type} {ok : α → Prop} {f : D → α → Option (α ⊕ (Flow × α))} (I : List D → α → Prop) (P : Flow × α → Prop) (hok : ∀ xs a, I xs a → ok a)
    (step : ∀ x r a, I (x :: r) a → (∃ a', f x a = some (.inl a') ∧ I r a') ∨ (∃ q, f x a = some (.inr q) ∧ P q)) (fin : ∀ a, I [] a → P (.nx, a)) : ∀ (xs : List D) (a : α), I xs a → ∃ q, forO ok f xs a = some q ∧ P q
  | [], a, h => ⟨_, by simp [forO, hok _ _ h], fin a h⟩
  | x :: xs, a, h => by
    rcases step x xs a h with ⟨a', e, i⟩ | ⟨q, e, p⟩
    · obtain ⟨q, e2, p⟩ := forO_inv I P hok step fin xs a' i
      exact ⟨q, by simp [forO, hok _ _ h, e, e2], p⟩
    · exact ⟨q, by simp [forO, hok _ _ h, e], p⟩
def endsB (I : Rho → Store → Prop) (P : Flow → Rho → Store → Prop) : Flow → Rho → Store → Prop
  | .nx, ρ, μ => I ρ μ
  | .ct, ρ, μ => I ρ μ
  | .bk, ρ, μ => P .nx ρ μ
  | .ret v, ρ, μ => P (.ret v) ρ μ
/-- a for over a list that stays, with an invariant of what is left -/
theorem ev_for {tg : Tg} {it : It} {b : List S} {xs : List D} {w : D} {μ1 : Store} (I : List D → Rho → Store → Prop) (P : Flow → Rho → Store → Prop) (hi : evI C F it ρ μ = some ((xs, .d w), μ1)) (h0 : I xs ρ μ1)
    (step : ∀ x r ρ μ, I (x :: r) ρ μ → ∃ ρ1, tgS ρ tg x = some ρ1 ∧ ∃ f ρ' μ', evSs C F b ρ1 μ = some (f, ρ', μ') ∧ endsB (I r) P f ρ' μ') (fin : ∀ ρ μ, I [] ρ μ → P .nx ρ μ) :
    ∃ f ρ' μ', evS C F (.for_ tg it b) ρ μ = some (f, ρ', μ') ∧ P f ρ' μ' := by
  obtain ⟨⟨f, ρ', μ'⟩, e, p⟩ := forO_inv (ok := fun (x : RS) => Still (.d w) xs x.2) (f := fun x (a : RS) => (tgS a.1 tg x).bind fun ρ1 => (evSs C F b ρ1 a.2).bind fun (f, y) => match f with
      | .nx => some (.inl y)
      | .ct => some (.inl y)
      | .bk => some (.inr (.nx, y))
      | .ret v => some (.inr (.ret v, y))) (fun r a => I r a.1 a.2) (fun q => P q.1 q.2.1 q.2.2) (fun _ _ _ => trivial) (fun x r a h => by
    obtain ⟨ρ1, e1, f, ρ', μ', e2, h⟩ := step x r a.1 a.2 h
    cases f with
    | nx => exact .inl ⟨(ρ', μ'), by simp [e1, e2], h⟩
    | ct => exact .inl ⟨(ρ', μ'), by simp [e1, e2], h⟩
    | bk => exact .inr ⟨(.nx, ρ', μ'), by simp [e1, e2], h⟩
    | ret v => exact .inr ⟨(.ret v, ρ', μ'), by simp [e1, e2], h⟩) (fun a h => fin _ _ h) xs (ρ, μ1) h0
  refine ⟨f, ρ', μ', ?_, p⟩
  simp only [evS, hi, Option.bind_some]
  exact e
end Mu

/-! data -/
namespace Mu
open PySem

/-! ### what may be compared -/
theorem shp_of {x : D} (h : x.canLay0 = true) (h2 : x.depth ≤ 64) : shp x = true := by
  unfold shp SeqAt.shaped
  rw [h, decide_eq_true h2]
  rfl
@[simp] theorem shp_int (i : Int) : shp (.int i) = true := shp_of rfl (Nat.zero_le _)
@[simp] theorem shp_bool (i : Bool) : shp (.bool i) = true := shp_of rfl (Nat.zero_le _)
@[simp] theorem shp_none : shp .none = true := shp_of rfl (Nat.zero_le _)
@[simp] theorem eqv_int (i j : Int) : PyData.eqv (.int i) (.int j) = (i == j) := by simp only [PyData.eqv]
@[simp] theorem eqv_bool (i j : Bool) : PyData.eqv (.bool i) (.bool j) = (i == j) := by simp only [PyData.eqv]
@[simp] theorem cmp_eq_s (i j : Str) : cmpD .eq (.str i) (.str j) = some (.bool (decide (i = j))) := rfl
@[simp] theorem cmp_ne_s (i j : Str) : cmpD .ne (.str i) (.str j) = some (.bool (!decide (i = j))) := rfl
theorem eqD_of {x y : D} (h : strEq x y = none) (h1 : shp x = true) (h2 : shp y = true) : eqD x y = some (PyData.eqv x y) := by
  unfold eqD
  rw [h]
  simp [h1, h2]
mutual
/-- ints and tuples of them, so deep -/
def Ti : Nat → D → Bool
  | _, .int _ => true
  | n + 1, .tuple xs => TiA n xs
  | _, _ => false
def TiA : Nat → List D → Bool
  | _, [] => true
  | n, x :: xs => Ti n x && TiA n xs
end
theorem canLay_ints : ∀ ns : List Int, PyData.canLayAll0 (ns.map PyData.int) = true
  | [] => by simp [PyData.canLayAll0]
  | n :: ns => by simp [PyData.canLayAll0, PyData.canLay0, canLay_ints ns]
theorem depth_ints0 : ∀ ns : List Int, PyData.depthAll (ns.map PyData.int) = 0
  | [] => by simp [PyData.depthAll]
  | n :: ns => by simp [PyData.depthAll, PyData.depth, depth_ints0 ns]
@[simp] theorem shp_tints (ns : List Int) : shp (.tuple (ns.map .int)) = true := shp_of (by simp [PyData.canLay0, canLay_ints]) (by simp [PyData.depth, depth_ints0])
@[simp] theorem shp_lints (ns : List Int) : shp (.list (ns.map .int)) = true := shp_of (by simp [PyData.canLay0, canLay_ints]) (by simp [PyData.depth, depth_ints0])
@[simp] theorem shp_lnil : shp (.list []) = true := shp_lints []
@[simp] theorem shp_tnil : shp (.tuple []) = true := shp_tints []
@[simp] theorem eqvAll_nil_l (xs : List D) : PyData.eqvAll xs [] = xs.isEmpty := by cases xs <;> simp [PyData.eqvAll]

/-! ### operators on what is known -/
@[simp] theorem bop_add (i j : Int) : bopD .add (.int i) (.int j) = some (.int (i + j)) := rfl
@[simp] theorem bop_sub (i j : Int) : bopD .sub (.int i) (.int j) = some (.int (i - j)) := rfl
theorem bop_mul (i j : Int) (h : mulOk i j = true) : bopD .mul (.int i) (.int j) = some (.int (i * j)) := if_pos h
theorem mulOk_r (i : Int) {j : Int} (h : -(2 ^ 64) < j) (h2 : j < 2 ^ 64) : mulOk i j = true := by
  simp only [mulOk, Bool.or_eq_true, Bool.and_eq_true, decide_eq_true_eq]
  exact .inr ⟨h, h2⟩
theorem bop_mod (i j : Int) (h : 0 < j) : bopD .mod (.int i) (.int j) = some (.int (i % j)) := if_pos h
theorem bop_fdiv (i j : Int) (h : 0 < j) (h2 : j < 1073741824) : bopD .fdiv (.int i) (.int j) = some (.int (i / j)) := if_pos ⟨h, h2⟩
theorem bop_tup (xs ys : List D) (h : xs.length + ys.length ≤ sizeLine) : bopD .add (.tuple xs) (.tuple ys) = some (.tuple (xs ++ ys)) := if_pos h
theorem bop_lst (xs ys : List D) (h : xs.length + ys.length ≤ sizeLine) : bopD .add (.list xs) (.list ys) = some (.list (xs ++ ys)) := if_pos h
theorem bop_str (x y : Str) (h : x.length + y.length ≤ sizeLine) : bopD .add (.str x) (.str y) = some (.str (x ++ y)) := if_pos h
@[simp] theorem cmp_lt (i j : Int) : cmpD .lt (.int i) (.int j) = some (.bool (decide (i < j))) := rfl
@[simp] theorem cmp_le (i j : Int) : cmpD .le (.int i) (.int j) = some (.bool (decide (i ≤ j))) := rfl
@[simp] theorem cmp_gt (i j : Int) : cmpD .gt (.int i) (.int j) = some (.bool (decide (j < i))) := rfl
@[simp] theorem cmp_ge (i j : Int) : cmpD .ge (.int i) (.int j) = some (.bool (decide (j ≤ i))) := rfl
@[simp] theorem cmp_eq_i (i j : Int) : cmpD .eq (.int i) (.int j) = some (.bool (decide (i = j))) := by
  have := eqD_of (x := .int i) (y := .int j) rfl (shp_int i) (shp_int j)
  simp [cmpD, this]
  rfl
@[simp] theorem cmp_ne_i (i j : Int) : cmpD .ne (.int i) (.int j) = some (.bool (!decide (i = j))) := by
  have := eqD_of (x := .int i) (y := .int j) rfl (shp_int i) (shp_int j)
  simp [cmpD, this]
  rfl
@[simp] theorem cmp_ne_b (i j : Bool) : cmpD .ne (.bool i) (.bool j) = some (.bool (i != j)) := by
  have := eqD_of (x := .bool i) (y := .bool j) rfl (shp_bool i) (shp_bool j)
  simp [cmpD, this]
  cases i <;> cases j <;> rfl
@[simp] theorem cmp_eq_b (i j : Bool) : cmpD .eq (.bool i) (.bool j) = some (.bool (i == j)) := by
  have := eqD_of (x := .bool i) (y := .bool j) rfl (shp_bool i) (shp_bool j)
  simp [cmpD, this]
@[simp] theorem bi_len_t (xs : List D) : biD .len (.tuple xs) = some (.int xs.length) := rfl
@[simp] theorem bi_len_l (xs : List D) : biD .len (.list xs) = some (.int xs.length) := rfl
@[simp] theorem bi_tup_l (xs : List D) : biD .tup (.list xs) = some (.tuple xs) := rfl
@[simp] theorem bi_tup_t (xs : List D) : biD .tup (.tuple xs) = some (.tuple xs) := rfl
@[simp] theorem bi_lst_l (xs : List D) : biD .lst (.list xs) = some (.list xs) := rfl
@[simp] theorem bi_lst_t (xs : List D) : biD .lst (.tuple xs) = some (.list xs) := rfl
@[simp] theorem bi_int_i (i : Int) : biD .int (.int i) = some (.int i) := rfl
theorem boolsD_map {α : Type} (f : α → Bool) : ∀ xs : List α, boolsD (xs.map fun x => PyData.bool (f x)) = some (xs.map f)
  | [] => rfl
  | x :: xs => by simp [boolsD, boolsD_map f xs]
theorem intsD_map' : ∀ ns : List Int, intsD (ns.map PyData.int) = some ns
  | [] => rfl
  | n :: ns => by simp [intsD, intsD_map' ns]
theorem bi_all {α : Type} (f : α → Bool) (xs : List α) : biD .all (.list (xs.map fun x => .bool (f x))) = some (.bool (xs.all f)) := by
  simp only [biD, boolsD_map, Option.map_some, List.all_map]
  rfl
theorem bi_max {n : Int} {ns : List Int} : biD .max (.tuple ((n :: ns).map .int)) = some (.int (ns.foldl max n)) := by
  simp only [biD, intsD_map']

/-! ### places -/
@[simp] theorem atI_zero (x : D) (xs : List D) : L2.atI (x :: xs) 0 = some x := by
  have := L2.atI_nat (xs := x :: xs) (j := 0) (v := x) rfl
  simpa using this
@[simp] theorem atI_one (x y : D) (xs : List D) : L2.atI (x :: y :: xs) 1 = some y := by
  have := L2.atI_nat (xs := x :: y :: xs) (j := 1) (v := y) rfl
  simpa using this
@[simp] theorem atI_two (x y z : D) (xs : List D) : L2.atI (x :: y :: z :: xs) 2 = some z := by
  have := L2.atI_nat (xs := x :: y :: z :: xs) (j := 2) (v := z) rfl
  simpa using this
@[simp] theorem atI_three (x y z u : D) (xs : List D) : L2.atI (x :: y :: z :: u :: xs) 3 = some u := by
  have := L2.atI_nat (xs := x :: y :: z :: u :: xs) (j := 3) (v := u) rfl
  simpa using this
@[simp] theorem atI_four (x y z u w : D) (xs : List D) : L2.atI (x :: y :: z :: u :: w :: xs) 4 = some w := by
  have := L2.atI_nat (xs := x :: y :: z :: u :: w :: xs) (j := 4) (v := w) rfl
  simpa using this
theorem atI_ok {α : Type} {xs : List α} {i : Int} (h0 : 0 ≤ i) (h1 : i < xs.length) : L2.atI xs i = some (xs[i.toNat]'(by omega)) := by
  have h := L2.atI_nat (xs := xs) (j := i.toNat) (v := xs[i.toNat]'(by omega)) (List.getElem?_eq_getElem (by omega))
  rw [show ((i.toNat : Nat) : Int) = i by omega] at h
  exact h
theorem atI_neg {α : Type} (xs : List α) {v : α} (h : xs = [] → False) (e : xs.getLast? = some v) : L2.atI xs (-1) = some v := by
  have h2 := List.dropLast_concat_getLast (l := xs) h
  have h3 : xs.getLast h = v := by
    have := List.getLast?_eq_some_getLast h
    rw [this] at e
    exact Option.some.inj e
  have h4 := L2.atI_last xs.dropLast v
  rw [← h3] at h4 ⊢
  rw [h2] at h4
  exact h4
@[simp] theorem idx_t (xs : List D) (i : Int) : idxD (.tuple xs) (.int i) = L2.atI xs i := rfl
@[simp] theorem idx_l (xs : List D) (i : Int) : idxD (.list xs) (.int i) = L2.atI xs i := rfl
@[simp] theorem sli_t (xs : List D) (lo hi : Option Int) : sliD (.tuple xs) lo hi = some (.tuple (cutD xs lo hi)) := rfl
@[simp] theorem sli_l (xs : List D) (lo hi : Option Int) : sliD (.list xs) lo hi = some (.list (cutD xs lo hi)) := rfl
theorem cut_to (xs : List D) {i : Int} (h0 : 0 ≤ i) : cutD xs none (some i) = xs.take i.toNat := by
  have e : (some i : Option Int) = some ((i.toNat : Nat) : Int) := by congr 1; omega
  unfold cutD
  rw [e, HT.sIx_nat, HT.sIx_none, List.drop_zero, Nat.sub_zero, ← List.take_eq_take_min]
theorem cut_from (xs : List D) {i : Int} (h0 : 0 ≤ i) : cutD xs (some i) none = xs.drop i.toNat := by
  have e : (some i : Option Int) = some ((i.toNat : Nat) : Int) := by congr 1; omega
  unfold cutD
  rw [e, HT.sIx_nat, HT.sIx_none]
  by_cases h : i.toNat ≤ xs.length
  · rw [Nat.min_eq_left h]
    exact List.take_of_length_le (by simp)
  · rw [Nat.min_eq_right (by omega), List.drop_length, List.drop_of_length_le (by omega)]
    simp
theorem cutD_le (xs : List D) (lo hi : Option Int) : (cutD xs lo hi).length ≤ xs.length := by
  unfold cutD
  simp; omega
theorem cutD_mem {xs : List D} {lo hi : Option Int} {x : D} (h : x ∈ cutD xs lo hi) : x ∈ xs := List.mem_of_mem_drop (List.mem_of_mem_take h)

/-! ### ranges -/
theorem rngOk_small {a b : Int} (h0 : 0 ≤ a) (h1 : a ≤ 100000) (h2 : -1 ≤ b) (h3 : b ≤ sizeLine) : rngOk a b = true := by
  have : sizeLine ≤ 2 ^ 40 := by decide
  simp only [rngOk, Bool.and_eq_true, decide_eq_true_eq]
  refine ⟨⟨⟨⟨?_, ?_⟩, ?_⟩, ?_⟩, ?_⟩ <;> omega
theorem rngD_len (a b : Int) : (rngD a b).length = (b - a).toNat := by simp [rngD]
theorem rngD_nat (n : Nat) : rngD 0 n = (List.range n).map fun (k : Nat) => PyData.int k := by
  unfold rngD
  rw [show ((n : Int) - 0).toNat = n by omega]
  congr 1
  funext k
  congr 1
  omega
theorem rngD_mem {a b : Int} {x : D} (h : x ∈ rngD a b) : ∃ k : Int, x = .int k ∧ a ≤ k ∧ k < b := by
  unfold rngD at h
  obtain ⟨k, hk, rfl⟩ := List.mem_map.mp h
  have := List.mem_range.mp hk
  exact ⟨_, rfl, by omega, by omega⟩
end Mu

namespace Mu
open PySem PySem.Spec
open PyProof.Rows L2
/-! ### the text (printed) -/
def tp (i : Nat) : Stmt := PySem.Challenge.pw_everyregular_k01_whole_machines.main.body.getD i (.Pass ⟨0, 0, 0, 0⟩)
def m_is_whole : FD := ⟨1, 1, [.ret (.band (.cons (.isi (.var 0) .int) (.cons (.inot (.isi (.var 0) .bool)) .nil)))]⟩
def m_is_from : FD := ⟨3, 3, [.ret (.band (.cons (.call 0 (.cons (.var 0) .nil)) (.cons (.chn .le .le (.var 1) (.var 0) (.var 2)) .nil)))]⟩
def m_is_row : FD := ⟨3, 4, [.ret (.band (.cons (.isi (.var 0) .tuple) (.cons (.bi .all (.comp [3] (.nm 3) (.seq (.var 0)) .nil (.call 1 (.cons (.var 3) (.cons (.var 1) (.cons (.var 2) .nil)))))) .nil)))]⟩
def m_is_up : FD := ⟨2, 3, [.ret (.band (.cons (.call 2 (.cons (.var 0) (.cons (.int 0) (.cons (.var 1) .nil)))) (.cons (.bi .all (.comp [2] (.nm 2) (.rng (.bop .sub (.bi .len (.var 0)) (.int 1))) .nil (.cmp .lt (.idx (.var 0) (.var 2)) (.idx (.var 0) (.bop .add (.var 2) (.int 1)))))) .nil)))]⟩
def m_first_true : FD := ⟨1, 2, [.for_ (.nm 1) (.rng (.bi .len (.var 0))) [.ife (.idx (.var 0) (.var 1)) [.ret (.var 1)] []], .ret .non]⟩
def m_fault_at : FD := ⟨2, 2, [.ret (.ite (.isN (.var 1)) .non (.tup (.cons (.var 0) (.cons (.var 1) .nil))))]⟩
def m_first_of : FD := ⟨1, 2, [.for_ (.nm 1) (.seq (.var 0)) [.ife (.notN (.var 1)) [.ret (.var 1)] []], .ret .non]⟩
def m_has_form : FD := ⟨1, 2, [.ife (.bor (.cons (.inot (.isi (.var 0) .tuple)) (.cons (.cmp .ne (.bi .len (.var 0)) (.int 2)) (.cons (.inot (.isi (.idx (.var 0) (.int 0)) .tuple)) .nil)))) [.ret (.bl false)] [], .ife (.bor (.cons (.inot (.chn .le .le (.int 1) (.bi .len (.idx (.var 0) (.int 0))) (.con "MOST" 1))) (.cons (.inot (.call 2 (.cons (.idx (.var 0) (.int 1)) (.cons (.int 0) (.cons (.con "MOST" 1) .nil))))) .nil))) [.ret (.bl false)] [], .ret (.bi .all (.comp [1] (.nm 1) (.seq (.idx (.var 0) (.int 0))) .nil (.band (.cons (.call 2 (.cons (.var 1) (.cons (.int 0) (.cons (.con "MOST" 1) .nil)))) (.cons (.cmp .eq (.bi .len (.var 1)) (.int 2)) .nil)))))]⟩
def m_fault : FD := ⟨1, 5, [.ife (.inot (.call 7 (.cons (.var 0) .nil))) [.ret (.con "FORM" 0)] [], .set 1 (.bop .sub (.bi .len (.idx (.var 0) (.int 0))) (.int 1)), .set 2 (.call 4 (.cons (.comp [4] (.nm 4) (.seq (.idx (.var 0) (.int 0))) .nil (.cmp .gt (.bi .max (.var 4)) (.var 1))) .nil)), .set 3 (.ite (.inot (.call 3 (.cons (.idx (.var 0) (.int 1)) (.cons (.var 1) .nil)))) (.int 0) .non), .ret (.call 6 (.cons (.lst (.cons (.call 5 (.cons (.str "step") (.cons (.var 2) .nil))) (.cons (.call 5 (.cons (.str "good") (.cons (.var 3) .nil))) .nil))) .nil))]⟩
def m_led : FD := ⟨3, 4, [.for_ (.nm 3) (.seq (.var 2)) [.set 1 (.idx (.idx (.idx (.var 0) (.int 0)) (.var 1)) (.var 3))], .ret (.var 1)]⟩
def m_has_word : FD := ⟨2, 2, [.ret (.cmp .inn (.call 9 (.cons (.var 0) (.cons (.int 0) (.cons (.var 1) .nil)))) (.idx (.var 0) (.int 1)))]⟩
def m_from_machines : FD := ⟨1, 1, [.ret (.var 0)]⟩
def m_to_machines : FD := ⟨1, 1, [.ret (.var 0)]⟩
def m__law_is_integer : FD := ⟨1, 1, [.ret (.band (.cons (.isi (.var 0) .int) (.cons (.inot (.isi (.var 0) .bool)) .nil)))]⟩
def m__law_same : FD := ⟨2, 3, [.ife (.bor (.cons (.isi (.var 1) .tuple) (.cons (.isi (.var 1) .list) .nil))) [.ife (.bor (.cons (.cmp .ne (.isi (.var 1) .tuple) (.isi (.var 0) .tuple)) (.cons (.cmp .ne (.isi (.var 1) .list) (.isi (.var 0) .list)) (.cons (.cmp .ne (.bi .len (.var 0)) (.bi .len (.var 1))) .nil)))) [.ret (.bl false)] [], .ret (.cmp .eq (.bi .len (.comp [2] (.nm 2) (.rng (.bi .len (.var 1))) (.cons (.inot (.call 14 (.cons (.idx (.var 0) (.var 2)) (.cons (.idx (.var 1) (.var 2)) .nil)))) .nil) (.var 2))) (.int 0))] [], .ife (.isN (.var 1)) [.ret (.isN (.var 0))] [], .ife (.bor (.cons (.isi (.var 1) .bool) (.cons (.isi (.var 0) .bool) .nil))) [.ret (.band (.cons (.isi (.var 1) .bool) (.cons (.isi (.var 0) .bool) (.cons (.cmp .eq (.var 0) (.var 1)) .nil))))] [], .ife (.isi (.var 1) .int) [.ret (.band (.cons (.isi (.var 0) .int) (.cons (.cmp .eq (.var 0) (.var 1)) .nil)))] [], .ret (.band (.cons (.isi (.var 0) .str) (.cons (.isi (.var 1) .str) (.cons (.cmp .eq (.var 0) (.var 1)) .nil))))]⟩
def m__law_pool : FD := ⟨1, 3, [.set 1 (.int 7), .for_ (.nm 2) (.seq (.sli (.var 0) .no (.so (.int 63)))) [.set 1 (.bop .mod (.bi .int (.bop .add (.bop .mul (.var 1) (.int 31)) (.var 2))) (.int 1000003))], .retM (.lst (.cons (.bi .lst (.var 0)) (.cons (.int 0) (.cons (.int 0) (.cons (.int 0) (.cons (.var 1) .nil))))))]⟩
def m__law_spread : FD := ⟨1, 4, [.set 1 (.bop .mod (.bi .int (.var 0)) (.int 2147483647)), .set 2 (.int 1), .for_ (.nm 3) (.rng (.int 4)) [.set 1 (.bop .mod (.bi .int (.bop .add (.bop .add (.bop .mul (.var 1) (.int 48271)) (.int 12345)) (.var 3))) (.int 2147483647)), .set 2 (.bop .add (.bop .mul (.var 2) (.int 2147483647)) (.var 1))], .ret (.var 2)]⟩
def m__law_draw : FD := ⟨2, 5, [.ife (.band (.cons (.cmp .le (.idx (.var 0) (.int 2)) (.int 0)) (.cons (.cmp .lt (.idx (.var 0) (.int 1)) (.bi .len (.idx (.var 0) (.int 0)))) .nil))) [.set 3 (.idx (.idx (.var 0) (.int 0)) (.idx (.var 0) (.int 1))), .put (.var 0) (.int 1) (.bop .add (.idx (.var 0) (.int 1)) (.int 1)), .put (.var 0) (.int 2) (.var 3), .ife (.cmp .lt (.var 3) (.int 1000000000000000000)) [.put (.var 0) (.int 2) (.call 16 (.cons (.var 3) .nil))] []] [], .put (.var 0) (.int 3) (.bop .add (.idx (.var 0) (.int 3)) (.int 1)), .ife (.cmp .le (.idx (.var 0) (.int 2)) (.int 0)) [.set 4 (.bop .mod (.bi .int (.bop .add (.bop .add (.bop .mul (.idx (.var 0) (.int 4)) (.int 48271)) (.bop .mul (.idx (.var 0) (.int 3)) (.int 69621))) (.int 1))) (.int 2147483647)), .set 4 (.bop .mod (.bi .int (.bop .add (.bop .mul (.var 4) (.int 16807)) (.idx (.var 0) (.int 3)))) (.int 2147483629)), .ret (.bop .mod (.bop .fdiv (.var 4) (.int 5)) (.var 1))] [], .set 2 (.bop .mod (.bi .int (.idx (.var 0) (.int 2))) (.var 1)), .put (.var 0) (.int 2) (.bop .fdiv (.idx (.var 0) (.int 2)) (.var 1)), .ret (.var 2)]⟩
def m__law_pick : FD := ⟨2, 2, [.ret (.idx (.var 1) (.call 17 (.cons (.var 0) (.cons (.bi .len (.var 1)) .nil))))]⟩
def m__law_bent : FD := ⟨2, 6, [.ife (.band (.cons (.isi (.var 1) .tuple) (.cons (.cmp .gt (.bi .len (.var 1)) (.int 0)) (.cons (.cmp .gt (.call 17 (.cons (.var 0) (.cons (.int 4) .nil))) (.int 0)) .nil)))) [.set 3 (.call 17 (.cons (.var 0) (.cons (.bi .len (.var 1)) .nil))), .ret (.bop .add (.bop .add (.sli (.var 1) .no (.so (.var 3))) (.tup (.cons (.call 19 (.cons (.var 0) (.cons (.idx (.var 1) (.var 3)) .nil))) .nil))) (.sli (.var 1) (.so (.bop .add (.var 3) (.int 1))) .no))] [], .set 2 (.call 17 (.cons (.var 0) (.cons (.int 9) .nil))), .ife (.cmp .eq (.var 2) (.int 0)) [.ret (.idx (.tup (.cons (.str "x") (.cons (.bl true) (.cons (.tup .nil) (.cons (.int 0) (.cons (.neg (.int 1)) (.cons .non (.cons (.bl false) (.cons (.lst .nil) (.cons (.str "in") (.cons (.int 1) .nil))))))))))) (.call 17 (.cons (.var 0) (.cons (.int 10) .nil))))] [], .ife (.call 13 (.cons (.var 1) .nil)) [.ret (.bop .add (.var 1) (.idx (.tup (.cons (.int 1) (.cons (.neg (.int 1)) (.cons (.int 2) (.cons (.int 0) .nil))))) (.call 17 (.cons (.var 0) (.cons (.int 4) .nil)))))] [], .ife (.isi (.var 1) .str) [.ret (.idx (.tup (.cons (.bop .add (.var 1) (.str "a")) (.cons (.sli (.var 1) (.so (.int 1)) .no) (.cons (.bop .add (.var 1) (.str "A")) (.cons (.bop .add (.var 1) (.str " ")) (.cons (.sli (.var 1) .no (.so (.int 1))) .nil)))))) (.call 17 (.cons (.var 0) (.cons (.int 5) .nil))))] [], .ife (.bor (.cons (.inot (.isi (.var 1) .tuple)) (.cons (.cmp .eq (.bi .len (.var 1)) (.int 0)) .nil))) [.ret (.ite (.cmp .lt (.var 2) (.int 5)) (.tup (.cons (.var 1) (.cons (.int 0) .nil))) (.tup .nil))] [], .set 3 (.call 17 (.cons (.var 0) (.cons (.bi .len (.var 1)) .nil))), .ife (.cmp .lt (.var 2) (.int 3)) [.ret (.bop .add (.sli (.var 1) .no (.so (.var 3))) (.sli (.var 1) (.so (.bop .add (.var 3) (.int 1))) .no))] [], .ife (.cmp .lt (.var 2) (.int 5)) [.ret (.bop .add (.bop .add (.sli (.var 1) .no (.so (.var 3))) (.tup (.cons (.idx (.var 1) (.var 3)) .nil))) (.sli (.var 1) (.so (.var 3)) .no))] [], .ife (.cmp .eq (.var 2) (.int 5)) [.ret (.bi .lst (.var 1))] [], .set 4 (.call 17 (.cons (.var 0) (.cons (.bi .len (.var 1)) .nil))), .setM 5 (.bi .lst (.var 1)), .put (.var 5) (.var 3) (.idx (.var 1) (.var 4)), .put (.var 5) (.var 4) (.idx (.var 1) (.var 3)), .ret (.bi .tup (.var 5))]⟩
def m__law_booled : FD := ⟨1, 2, [.ife (.isi (.var 0) .tuple) [.ret (.bi .tup (.comp [1] (.nm 1) (.seq (.var 0)) .nil (.call 20 (.cons (.var 1) .nil))))] [], .ret (.ite (.band (.cons (.call 13 (.cons (.var 0) .nil)) (.cons (.cmp .inn (.var 0) (.tup (.cons (.int 0) (.cons (.int 1) .nil)))) .nil))) (.cmp .eq (.var 0) (.int 1)) (.var 0))]⟩
def m__law_listed : FD := ⟨2, 3, [.ife (.inot (.isi (.var 0) .tuple)) [.ret (.var 0)] [], .ife (.cmp .eq (.var 1) (.int 0)) [.ret (.bi .lst (.var 0))] [], .ret (.bi .tup (.comp [2] (.nm 2) (.seq (.var 0)) .nil (.call 21 (.cons (.var 2) (.cons (.bop .sub (.var 1) (.int 1)) .nil)))))]⟩
def m__law_odd_values : FD := ⟨0, 2, [.set 0 (.tup .nil), .for_ (.nm 1) (.rng (.int 90)) [.set 0 (.tup (.cons (.var 0) .nil))], .ret (.lst (.cons (.var 0) (.cons (.tup (.cons (.str "plan") (.cons (.var 0) (.cons (.var 0) .nil)))) (.cons .non (.cons (.int 0) (.cons (.int 1) (.cons (.bl true) (.cons (.bl false) (.cons (.str "") (.cons (.str "x") (.cons (.tup .nil) (.cons (.lst .nil) (.cons (.dct 0) (.cons (.tup (.cons (.tup .nil) .nil)) (.cons (.tup (.cons (.tup .nil) (.cons (.tup .nil) .nil))) (.cons (.tup (.cons (.int 0) .nil)) (.cons (.tup (.cons (.int 1) (.cons (.int 2) .nil))) (.cons (.tup (.cons (.str "x") .nil)) (.cons (.tup (.cons (.lst .nil) .nil)) (.cons (.dct 1) (.cons (.tup (.cons .non .nil)) (.cons (.tup (.cons (.tup (.cons (.tup .nil) .nil)) .nil)) (.cons (.neg (.int 1)) .nil)))))))))))))))))))))))]⟩
def m__law_is_up : FD := ⟨1, 2, [.ret (.cmp .eq (.bi .len (.comp [1] (.nm 1) (.rng2 (.int 1) (.bi .len (.var 0))) (.cons (.inot (.cmp .lt (.idx (.var 0) (.bop .sub (.var 1) (.int 1))) (.idx (.var 0) (.var 1)))) .nil) (.var 1))) (.int 0))]⟩
def m__law_is_row : FD := ⟨4, 5, [.ife (.bor (.cons (.inot (.isi (.var 0) .tuple)) (.cons (.band (.cons (.notN (.var 1)) (.cons (.cmp .ne (.bi .len (.var 0)) (.var 1)) .nil))) .nil))) [.ret (.bl false)] [], .ret (.cmp .eq (.bi .len (.comp [4] (.nm 4) (.seq (.var 0)) (.cons (.bor (.cons (.inot (.call 13 (.cons (.var 4) .nil))) (.cons (.cmp .lt (.var 4) (.var 2)) (.cons (.cmp .gt (.var 4) (.var 3)) .nil)))) .nil) (.var 4))) (.int 0))]⟩
def m__law_least : FD := ⟨1, 1, [.ret (.ite (.cmp .ne (.var 0) (.lst .nil)) (.bi .min (.var 0)) .non)]⟩
def m__law_first : FD := ⟨1, 2, [.for_ (.nm 1) (.seq (.var 0)) [.ife (.notN (.idx (.var 1) (.int 1))) [.ret (.var 1)] []], .ret .non]⟩
def m__law_words : FD := ⟨1, 5, [.set 1 (.lst (.cons (.tup .nil) .nil)), .for_ (.nm 2) (.rng (.var 0)) [.set 3 (.lst .nil), .for_ (.nm 4) (.seq (.var 1)) [.set 3 (.bop .add (.var 3) (.lst (.cons (.bop .add (.var 4) (.tup (.cons (.int 0) .nil))) (.cons (.bop .add (.var 4) (.tup (.cons (.int 1) .nil))) .nil))))], .set 1 (.var 3)], .ret (.var 1)]⟩
def m__law_all_words : FD := ⟨1, 3, [.set 1 (.lst .nil), .for_ (.nm 2) (.rng (.bop .add (.var 0) (.int 1))) [.set 1 (.bop .add (.var 1) (.call 27 (.cons (.var 2) .nil)))], .ret (.var 1)]⟩
def m__law_led : FD := ⟨3, 4, [.for_ (.nm 3) (.seq (.var 2)) [.set 1 (.idx (.idx (.idx (.var 0) (.int 0)) (.var 1)) (.var 3))], .ret (.var 1)]⟩
def m__law_takes : FD := ⟨2, 2, [.ret (.cmp .inn (.call 29 (.cons (.var 0) (.cons (.int 0) (.cons (.var 1) .nil)))) (.idx (.var 0) (.int 1)))]⟩
def m__law_some_of : FD := ⟨2, 3, [.ret (.bi .tup (.comp [2] (.nm 2) (.rng (.var 1)) (.cons (.cmp .eq (.call 17 (.cons (.var 0) (.cons (.int 2) .nil))) (.int 0)) .nil) (.var 2)))]⟩
def m__law_machine : FD := ⟨2, 4, [.set 2 (.bop .add (.int 1) (.call 17 (.cons (.var 0) (.cons (.var 1) .nil)))), .ret (.tup (.cons (.bi .tup (.comp [3] (.nm 3) (.rng (.var 2)) .nil (.tup (.cons (.call 17 (.cons (.var 0) (.cons (.var 2) .nil))) (.cons (.call 17 (.cons (.var 0) (.cons (.var 2) .nil))) .nil))))) (.cons (.call 31 (.cons (.var 0) (.cons (.var 2) .nil))) .nil)))]⟩
def m__law_swapped : FD := ⟨2, 5, [.ife (.bor (.cons (.inot (.isi (.var 1) .tuple)) (.cons (.cmp .eq (.bi .len (.var 1)) (.int 0)) .nil))) [.ret (.var 1)] [], .set 2 (.call 17 (.cons (.var 0) (.cons (.bi .len (.var 1)) .nil))), .ife (.band (.cons (.isi (.idx (.var 1) (.var 2)) .tuple) (.cons (.cmp .gt (.call 17 (.cons (.var 0) (.cons (.int 4) .nil))) (.int 0)) .nil))) [.ret (.bop .add (.bop .add (.sli (.var 1) .no (.so (.var 2))) (.tup (.cons (.call 33 (.cons (.var 0) (.cons (.idx (.var 1) (.var 2)) .nil))) .nil))) (.sli (.var 1) (.so (.bop .add (.var 2) (.int 1))) .no))] [], .set 3 (.call 17 (.cons (.var 0) (.cons (.bi .len (.var 1)) .nil))), .setM 4 (.bi .lst (.var 1)), .put2 (.var 4) (.var 2) (.var 4) (.var 3) (.idx (.var 4) (.var 3)) (.idx (.var 4) (.var 2)), .ret (.bi .tup (.var 4))]⟩
def m__law_changed : FD := ⟨3, 4, [.ife (.bor (.cons (.inot (.isi (.var 1) .tuple)) (.cons (.cmp .eq (.bi .len (.var 1)) (.int 0)) (.cons (.cmp .eq (.call 17 (.cons (.var 0) (.cons (.int 7) .nil))) (.int 0)) .nil)))) [.ret (.call 18 (.cons (.var 0) (.cons (.var 2) .nil)))] [], .set 3 (.call 17 (.cons (.var 0) (.cons (.bi .len (.var 1)) .nil))), .ret (.bop .add (.bop .add (.sli (.var 1) .no (.so (.var 3))) (.tup (.cons (.call 34 (.cons (.var 0) (.cons (.idx (.var 1) (.var 3)) (.cons (.var 2) .nil)))) .nil))) (.sli (.var 1) (.so (.bop .add (.var 3) (.int 1))) .no))]⟩
def m__law_bends : FD := ⟨2, 5, [.set 2 (.lst (.cons (.int 0) (.cons (.int 1) (.cons (.int 2) (.cons (.int 3) (.cons (.int 4) (.cons (.int 5) (.cons (.neg (.int 1)) (.cons (.int 100001) (.cons (.tup .nil) (.cons (.tup (.cons (.int 0) .nil)) (.cons (.tup (.cons (.int 1) .nil)) (.cons (.tup (.cons (.int 0) (.cons (.int 1) .nil))) (.cons (.tup (.cons (.int 1) (.cons (.int 0) .nil))) (.cons (.tup (.cons (.int 0) (.cons (.int 0) (.cons (.int 0) .nil)))) (.cons (.tup (.cons (.int 1) (.cons (.int 0) (.cons (.int 1) .nil)))) (.cons (.tup (.cons (.str "letter") (.cons (.int 0) .nil))) (.cons (.tup (.cons (.str "blank") .nil)) (.cons (.str "row") (.cons (.str "a") (.cons .non (.cons (.bl true) (.cons (.tup (.cons (.tup (.cons (.int 0) (.cons (.int 1) .nil))) (.cons (.tup (.cons (.int 1) (.cons (.int 0) .nil))) .nil))) .nil))))))))))))))))))))))), .set 3 (.lst (.cons (.bi .lst (.var 1)) (.cons (.sli (.var 1) (.so (.int 1)) .no) (.cons (.sli (.var 1) .no (.so (.neg (.int 1)))) (.cons (.bop .add (.var 1) (.sli (.var 1) (.so (.neg (.int 1))) .no)) (.cons (.tup (.cons (.var 1) .nil)) (.cons (.call 21 (.cons (.var 1) (.cons (.int 1) .nil))) (.cons (.call 21 (.cons (.var 1) (.cons (.int 2) .nil))) (.cons (.call 20 (.cons (.var 1) .nil)) (.cons (.tup .nil) .nil)))))))))), .set 3 (.bop .add (.bop .add (.var 3) (.comp [4] (.nm 4) (.rng (.int 14)) .nil (.call 34 (.cons (.var 0) (.cons (.var 1) (.cons (.var 2) .nil)))))) (.comp [4] (.nm 4) (.rng (.int 9)) .nil (.call 33 (.cons (.var 0) (.cons (.var 1) .nil))))), .ret (.bop .add (.var 3) (.comp [4] (.nm 4) (.rng (.int 7)) .nil (.call 19 (.cons (.var 0) (.cons (.var 1) .nil)))))]⟩
def m__law_f_machines : FD := ⟨1, 6, [.ife (.bor (.cons (.inot (.isi (.var 0) .tuple)) (.cons (.cmp .ne (.bi .len (.var 0)) (.int 2)) (.cons (.inot (.isi (.idx (.var 0) (.int 0)) .tuple)) (.cons (.cmp .lt (.bi .len (.idx (.var 0) (.int 0))) (.int 1)) (.cons (.cmp .gt (.bi .len (.idx (.var 0) (.int 0))) (.int 100000)) .nil)))))) [.ret (.tup (.cons (.str "form") (.cons (.int 0) .nil)))] [], .ife (.bor (.cons (.inot (.call 24 (.cons (.idx (.var 0) (.int 1)) (.cons .non (.cons (.int 0) (.cons (.int 100000) .nil)))))) (.cons (.cmp .gt (.bi .len (.comp [5] (.nm 5) (.seq (.idx (.var 0) (.int 0))) (.cons (.inot (.call 24 (.cons (.var 5) (.cons (.int 2) (.cons (.int 0) (.cons (.int 100000) .nil)))))) .nil) (.var 5))) (.int 0)) .nil))) [.ret (.tup (.cons (.str "form") (.cons (.int 0) .nil)))] [], .set 1 (.bop .sub (.bi .len (.idx (.var 0) (.int 0))) (.int 1)), .set 2 (.comp [4] (.nm 4) (.rng (.bop .add (.var 1) (.int 1))) (.cons (.cmp .gt (.bi .max (.idx (.idx (.var 0) (.int 0)) (.var 4))) (.var 1)) .nil) (.var 4)), .set 3 (.ite (.bor (.cons (.inot (.call 23 (.cons (.idx (.var 0) (.int 1)) .nil))) (.cons (.cmp .gt (.bi .len (.comp [4] (.nm 4) (.seq (.idx (.var 0) (.int 1))) (.cons (.cmp .gt (.var 4) (.var 1)) .nil) (.var 4))) (.int 0)) .nil))) (.int 0) .non), .ret (.call 26 (.cons (.lst (.cons (.tup (.cons (.str "step") (.cons (.call 25 (.cons (.var 2) .nil)) .nil))) (.cons (.tup (.cons (.str "good") (.cons (.var 3) .nil))) .nil))) .nil))]⟩
def m_law : FD := ⟨1, 11, [.setM 1 (.callM 15 (.cons (.var 0) .nil)), .for_ (.nm 2) (.rng (.int 3)) [.set 3 (.call 32 (.cons (.var 1) (.cons (.int 4) .nil))), .set 4 (.call 11 (.cons (.var 3) .nil)), .set 5 (.call 32 (.cons (.var 1) (.cons (.int 5) .nil))), .ife (.bor (.cons (.notN (.call 36 (.cons (.var 4) .nil))) (.cons (.notN (.call 36 (.cons (.var 5) .nil))) .nil))) [.ret (.bl false)] [], .for_ (.nm 6) (.seq (.tup (.cons (.var 4) (.cons (.var 5) .nil)))) [.set 9 (.bi .repr (.var 6)), .set 10 (.call 12 (.cons (.var 6) .nil)), .ife (.notN (.call 36 (.cons (.var 10) .nil))) [.ret (.bl false)] [], .for_ (.nm 8) (.seq (.call 28 (.cons (.int 4) .nil))) [.ife (.inot (.call 14 (.cons (.lst (.cons (.call 10 (.cons (.var 6) (.cons (.var 8) .nil))) (.cons (.call 30 (.cons (.var 10) (.cons (.var 8) .nil))) .nil))) (.cons (.rep (.cons (.call 30 (.cons (.var 6) (.cons (.var 8) .nil))) .nil) (.int 2)) .nil)))) [.ret (.bl false)] []], .ife (.cmp .ne (.bi .repr (.var 6)) (.var 9)) [.ret (.bl false)] []], .set 7 (.call 12 (.cons (.var 4) .nil)), .for_ (.nm 8) (.seq (.call 28 (.cons (.int 5) .nil))) [.ife (.cmp .ne (.call 30 (.cons (.var 7) (.cons (.var 8) .nil))) (.call 30 (.cons (.var 3) (.cons (.var 8) .nil)))) [.ret (.bl false)] []], .for_ (.nm 6) (.seq (.bop .add (.bop .add (.lst (.cons (.var 4) (.cons (.var 5) .nil))) (.call 35 (.cons (.var 1) (.cons (.var 5) .nil)))) (.call 22 .nil))) [.ife (.inot (.call 14 (.cons (.call 8 (.cons (.var 6) .nil)) (.cons (.call 36 (.cons (.var 6) .nil)) .nil)))) [.ret (.bl false)] []]], .ret (.bl true)]⟩
def fns : List Str := [("is_whole" : Str), ("is_from" : Str), ("is_row" : Str), ("is_up" : Str), ("first_true" : Str), ("fault_at" : Str), ("first_of" : Str), ("has_form" : Str), ("fault" : Str), ("led" : Str), ("has_word" : Str), ("from_machines" : Str), ("to_machines" : Str), ("_law_is_integer" : Str), ("_law_same" : Str), ("_law_pool" : Str), ("_law_spread" : Str), ("_law_draw" : Str), ("_law_pick" : Str), ("_law_bent" : Str), ("_law_booled" : Str), ("_law_listed" : Str), ("_law_odd_values" : Str), ("_law_is_up" : Str), ("_law_is_row" : Str), ("_law_least" : Str), ("_law_first" : Str), ("_law_words" : Str), ("_law_all_words" : Str), ("_law_led" : Str), ("_law_takes" : Str), ("_law_some_of" : Str), ("_law_machine" : Str), ("_law_swapped" : Str), ("_law_changed" : Str), ("_law_bends" : Str), ("_law_f_machines" : Str), ("law" : Str)]
def fs : List FD := [m_is_whole, m_is_from, m_is_row, m_is_up, m_first_true, m_fault_at, m_first_of, m_has_form, m_fault, m_led, m_has_word, m_from_machines, m_to_machines, m__law_is_integer, m__law_same, m__law_pool, m__law_spread, m__law_draw, m__law_pick, m__law_bent, m__law_booled, m__law_listed, m__law_odd_values, m__law_is_up, m__law_is_row, m__law_least, m__law_first, m__law_words, m__law_all_words, m__law_led, m__law_takes, m__law_some_of, m__law_machine, m__law_swapped, m__law_changed, m__law_bends, m__law_f_machines, m_law]
def cons : List Str := [("FORM" : Str), ("MOST" : Str)]
def C : Cons := fun n => ([(.tuple [(.str "form"), (.int 0)]), (.int 100000)] : List D)[n]?
/-- the calls, hidden from unfolding -/
noncomputable def G : Nat → Calls := Classical.choose (⟨callF C fs, rfl⟩ : ∃ g : Nat → Calls, g = callF C fs)
theorem G_eq : G = callF C fs := Classical.choose_spec (⟨callF C fs, rfl⟩ : ∃ g : Nat → Calls, g = callF C fs)
theorem c_is_whole (k : Nat) (vs : List Val) (μ : Store) : G (k + 1) 0 vs μ = runD C (G k) m_is_whole vs μ := by rw [G_eq]; rfl
theorem c_is_from (k : Nat) (vs : List Val) (μ : Store) : G (k + 1) 1 vs μ = runD C (G k) m_is_from vs μ := by rw [G_eq]; rfl
theorem c_is_row (k : Nat) (vs : List Val) (μ : Store) : G (k + 1) 2 vs μ = runD C (G k) m_is_row vs μ := by rw [G_eq]; rfl
theorem c_is_up (k : Nat) (vs : List Val) (μ : Store) : G (k + 1) 3 vs μ = runD C (G k) m_is_up vs μ := by rw [G_eq]; rfl
theorem c_first_true (k : Nat) (vs : List Val) (μ : Store) : G (k + 1) 4 vs μ = runD C (G k) m_first_true vs μ := by rw [G_eq]; rfl
theorem c_fault_at (k : Nat) (vs : List Val) (μ : Store) : G (k + 1) 5 vs μ = runD C (G k) m_fault_at vs μ := by rw [G_eq]; rfl
theorem c_first_of (k : Nat) (vs : List Val) (μ : Store) : G (k + 1) 6 vs μ = runD C (G k) m_first_of vs μ := by rw [G_eq]; rfl
theorem c_has_form (k : Nat) (vs : List Val) (μ : Store) : G (k + 1) 7 vs μ = runD C (G k) m_has_form vs μ := by rw [G_eq]; rfl
theorem c_fault (k : Nat) (vs : List Val) (μ : Store) : G (k + 1) 8 vs μ = runD C (G k) m_fault vs μ := by rw [G_eq]; rfl
theorem c_led (k : Nat) (vs : List Val) (μ : Store) : G (k + 1) 9 vs μ = runD C (G k) m_led vs μ := by rw [G_eq]; rfl
theorem c_has_word (k : Nat) (vs : List Val) (μ : Store) : G (k + 1) 10 vs μ = runD C (G k) m_has_word vs μ := by rw [G_eq]; rfl
theorem c_from_machines (k : Nat) (vs : List Val) (μ : Store) : G (k + 1) 11 vs μ = runD C (G k) m_from_machines vs μ := by rw [G_eq]; rfl
theorem c_to_machines (k : Nat) (vs : List Val) (μ : Store) : G (k + 1) 12 vs μ = runD C (G k) m_to_machines vs μ := by rw [G_eq]; rfl
theorem c__law_is_integer (k : Nat) (vs : List Val) (μ : Store) : G (k + 1) 13 vs μ = runD C (G k) m__law_is_integer vs μ := by rw [G_eq]; rfl
theorem c__law_same (k : Nat) (vs : List Val) (μ : Store) : G (k + 1) 14 vs μ = runD C (G k) m__law_same vs μ := by rw [G_eq]; rfl
theorem c__law_pool (k : Nat) (vs : List Val) (μ : Store) : G (k + 1) 15 vs μ = runD C (G k) m__law_pool vs μ := by rw [G_eq]; rfl
theorem cM__law_pool (k : Nat) (vs : List Val) (μ : Store) : G (k + 1) (mB + 15) vs μ = runM C (G k) m__law_pool vs μ := by rw [G_eq]; rfl
theorem c__law_spread (k : Nat) (vs : List Val) (μ : Store) : G (k + 1) 16 vs μ = runD C (G k) m__law_spread vs μ := by rw [G_eq]; rfl
theorem c__law_draw (k : Nat) (vs : List Val) (μ : Store) : G (k + 1) 17 vs μ = runD C (G k) m__law_draw vs μ := by rw [G_eq]; rfl
theorem c__law_pick (k : Nat) (vs : List Val) (μ : Store) : G (k + 1) 18 vs μ = runD C (G k) m__law_pick vs μ := by rw [G_eq]; rfl
theorem c__law_bent (k : Nat) (vs : List Val) (μ : Store) : G (k + 1) 19 vs μ = runD C (G k) m__law_bent vs μ := by rw [G_eq]; rfl
theorem c__law_booled (k : Nat) (vs : List Val) (μ : Store) : G (k + 1) 20 vs μ = runD C (G k) m__law_booled vs μ := by rw [G_eq]; rfl
theorem c__law_listed (k : Nat) (vs : List Val) (μ : Store) : G (k + 1) 21 vs μ = runD C (G k) m__law_listed vs μ := by rw [G_eq]; rfl
theorem c__law_odd_values (k : Nat) (vs : List Val) (μ : Store) : G (k + 1) 22 vs μ = runD C (G k) m__law_odd_values vs μ := by rw [G_eq]; rfl
theorem c__law_is_up (k : Nat) (vs : List Val) (μ : Store) : G (k + 1) 23 vs μ = runD C (G k) m__law_is_up vs μ := by rw [G_eq]; rfl
theorem c__law_is_row (k : Nat) (vs : List Val) (μ : Store) : G (k + 1) 24 vs μ = runD C (G k) m__law_is_row vs μ := by rw [G_eq]; rfl
theorem c__law_least (k : Nat) (vs : List Val) (μ : Store) : G (k + 1) 25 vs μ = runD C (G k) m__law_least vs μ := by rw [G_eq]; rfl
theorem c__law_first (k : Nat) (vs : List Val) (μ : Store) : G (k + 1) 26 vs μ = runD C (G k) m__law_first vs μ := by rw [G_eq]; rfl
theorem c__law_words (k : Nat) (vs : List Val) (μ : Store) : G (k + 1) 27 vs μ = runD C (G k) m__law_words vs μ := by rw [G_eq]; rfl
theorem c__law_all_words (k : Nat) (vs : List Val) (μ : Store) : G (k + 1) 28 vs μ = runD C (G k) m__law_all_words vs μ := by rw [G_eq]; rfl
theorem c__law_led (k : Nat) (vs : List Val) (μ : Store) : G (k + 1) 29 vs μ = runD C (G k) m__law_led vs μ := by rw [G_eq]; rfl
theorem c__law_takes (k : Nat) (vs : List Val) (μ : Store) : G (k + 1) 30 vs μ = runD C (G k) m__law_takes vs μ := by rw [G_eq]; rfl
theorem c__law_some_of (k : Nat) (vs : List Val) (μ : Store) : G (k + 1) 31 vs μ = runD C (G k) m__law_some_of vs μ := by rw [G_eq]; rfl
theorem c__law_machine (k : Nat) (vs : List Val) (μ : Store) : G (k + 1) 32 vs μ = runD C (G k) m__law_machine vs μ := by rw [G_eq]; rfl
theorem c__law_swapped (k : Nat) (vs : List Val) (μ : Store) : G (k + 1) 33 vs μ = runD C (G k) m__law_swapped vs μ := by rw [G_eq]; rfl
theorem c__law_changed (k : Nat) (vs : List Val) (μ : Store) : G (k + 1) 34 vs μ = runD C (G k) m__law_changed vs μ := by rw [G_eq]; rfl
theorem c__law_bends (k : Nat) (vs : List Val) (μ : Store) : G (k + 1) 35 vs μ = runD C (G k) m__law_bends vs μ := by rw [G_eq]; rfl
theorem c__law_f_machines (k : Nat) (vs : List Val) (μ : Store) : G (k + 1) 36 vs μ = runD C (G k) m__law_f_machines vs μ := by rw [G_eq]; rfl
theorem c_law (k : Nat) (vs : List Val) (μ : Store) : G (k + 1) 37 vs μ = runD C (G k) m_law vs μ := by rw [G_eq]; rfl
theorem sc_is_whole : FnScope ["value"] ["value"] (defScope (tp 2)) := ⟨rfl, rfl, rfl, by decide +kernel, rfl, by decide +kernel, by decide +kernel⟩
theorem ck_is_whole : ckSs ⟨["value"], fns, cons⟩ (defScope (tp 2)) m_is_whole.body (defBody (tp 2)) = true := by decide +kernel
theorem sc_is_from : FnScope ["value", "low", "high"] ["value", "low", "high"] (defScope (tp 3)) := ⟨rfl, rfl, rfl, by decide +kernel, rfl, by decide +kernel, by decide +kernel⟩
theorem ck_is_from : ckSs ⟨["value", "low", "high"], fns, cons⟩ (defScope (tp 3)) m_is_from.body (defBody (tp 3)) = true := by decide +kernel
theorem sc_is_row : FnScope ["value", "low", "high", "item"] ["value", "low", "high"] (defScope (tp 4)) := ⟨rfl, rfl, rfl, by decide +kernel, rfl, by decide +kernel, by decide +kernel⟩
theorem ck_is_row : ckSs ⟨["value", "low", "high", "item"], fns, cons⟩ (defScope (tp 4)) m_is_row.body (defBody (tp 4)) = true := by decide +kernel
theorem sc_is_up : FnScope ["value", "high", "k"] ["value", "high"] (defScope (tp 5)) := ⟨rfl, rfl, rfl, by decide +kernel, rfl, by decide +kernel, by decide +kernel⟩
theorem ck_is_up : ckSs ⟨["value", "high", "k"], fns, cons⟩ (defScope (tp 5)) m_is_up.body (defBody (tp 5)) = true := by decide +kernel
theorem sc_first_true : FnScope ["flags", "k"] ["flags"] (defScope (tp 6)) := ⟨rfl, rfl, rfl, by decide +kernel, rfl, by decide +kernel, by decide +kernel⟩
theorem ck_first_true : ckSs ⟨["flags", "k"], fns, cons⟩ (defScope (tp 6)) m_first_true.body (defBody (tp 6)) = true := by decide +kernel
theorem sc_fault_at : FnScope ["word", "place"] ["word", "place"] (defScope (tp 7)) := ⟨rfl, rfl, rfl, by decide +kernel, rfl, by decide +kernel, by decide +kernel⟩
theorem ck_fault_at : ckSs ⟨["word", "place"], fns, cons⟩ (defScope (tp 7)) m_fault_at.body (defBody (tp 7)) = true := by decide +kernel
theorem sc_first_of : FnScope ["faults", "fault"] ["faults"] (defScope (tp 8)) := ⟨rfl, rfl, rfl, by decide +kernel, rfl, by decide +kernel, by decide +kernel⟩
theorem ck_first_of : ckSs ⟨["faults", "fault"], fns, cons⟩ (defScope (tp 8)) m_first_of.body (defBody (tp 8)) = true := by decide +kernel
theorem sc_has_form : FnScope ["value", "step"] ["value"] (defScope (tp 11)) := ⟨rfl, rfl, rfl, by decide +kernel, rfl, by decide +kernel, by decide +kernel⟩
theorem ck_has_form : ckSs ⟨["value", "step"], fns, cons⟩ (defScope (tp 11)) m_has_form.body (defBody (tp 11)) = true := by decide +kernel
theorem sc_fault : FnScope ["value", "last", "lost", "good", "step"] ["value"] (defScope (tp 12)) := ⟨rfl, rfl, rfl, by decide +kernel, rfl, by decide +kernel, by decide +kernel⟩
theorem ck_fault : ckSs ⟨["value", "last", "lost", "good", "step"], fns, cons⟩ (defScope (tp 12)) m_fault.body (defBody (tp 12)) = true := by decide +kernel
theorem sc_led : FnScope ["machine", "state", "word", "letter"] ["machine", "state", "word"] (defScope (tp 13)) := ⟨rfl, rfl, rfl, by decide +kernel, rfl, by decide +kernel, by decide +kernel⟩
theorem ck_led : ckSs ⟨["machine", "state", "word", "letter"], fns, cons⟩ (defScope (tp 13)) m_led.body (defBody (tp 13)) = true := by decide +kernel
theorem sc_has_word : FnScope ["machine", "word"] ["machine", "word"] (defScope (tp 14)) := ⟨rfl, rfl, rfl, by decide +kernel, rfl, by decide +kernel, by decide +kernel⟩
theorem ck_has_word : ckSs ⟨["machine", "word"], fns, cons⟩ (defScope (tp 14)) m_has_word.body (defBody (tp 14)) = true := by decide +kernel
theorem sc_from_machines : FnScope ["machine"] ["machine"] (defScope (tp 15)) := ⟨rfl, rfl, rfl, by decide +kernel, rfl, by decide +kernel, by decide +kernel⟩
theorem ck_from_machines : ckSs ⟨["machine"], fns, cons⟩ (defScope (tp 15)) m_from_machines.body (defBody (tp 15)) = true := by decide +kernel
theorem sc_to_machines : FnScope ["machine"] ["machine"] (defScope (tp 16)) := ⟨rfl, rfl, rfl, by decide +kernel, rfl, by decide +kernel, by decide +kernel⟩
theorem ck_to_machines : ckSs ⟨["machine"], fns, cons⟩ (defScope (tp 16)) m_to_machines.body (defBody (tp 16)) = true := by decide +kernel
theorem sc__law_is_integer : FnScope ["actual"] ["actual"] (defScope (tp 18)) := ⟨rfl, rfl, rfl, by decide +kernel, rfl, by decide +kernel, by decide +kernel⟩
theorem ck__law_is_integer : ckSs ⟨["actual"], fns, cons⟩ (defScope (tp 18)) m__law_is_integer.body (defBody (tp 18)) = true := by decide +kernel
theorem sc__law_same : FnScope ["actual", "due", "k"] ["actual", "due"] (defScope (tp 19)) := ⟨rfl, rfl, rfl, by decide +kernel, rfl, by decide +kernel, by decide +kernel⟩
theorem ck__law_same : ckSs ⟨["actual", "due", "k"], fns, cons⟩ (defScope (tp 19)) m__law_same.body (defBody (tp 19)) = true := by decide +kernel
theorem sc__law_pool : FnScope ["script", "salt", "cell"] ["script"] (defScope (tp 20)) := ⟨rfl, rfl, rfl, by decide +kernel, rfl, by decide +kernel, by decide +kernel⟩
theorem ck__law_pool : ckSs ⟨["script", "salt", "cell"], fns, cons⟩ (defScope (tp 20)) m__law_pool.body (defBody (tp 20)) = true := by decide +kernel
theorem sc__law_spread : FnScope ["cell", "mixed", "total", "k"] ["cell"] (defScope (tp 21)) := ⟨rfl, rfl, rfl, by decide +kernel, rfl, by decide +kernel, by decide +kernel⟩
theorem ck__law_spread : ckSs ⟨["cell", "mixed", "total", "k"], fns, cons⟩ (defScope (tp 21)) m__law_spread.body (defBody (tp 21)) = true := by decide +kernel
theorem sc__law_draw : FnScope ["pool", "many", "value", "cell", "mixed"] ["pool", "many"] (defScope (tp 22)) := ⟨rfl, rfl, rfl, by decide +kernel, rfl, by decide +kernel, by decide +kernel⟩
theorem ck__law_draw : ckSs ⟨["pool", "many", "value", "cell", "mixed"], fns, cons⟩ (defScope (tp 22)) m__law_draw.body (defBody (tp 22)) = true := by decide +kernel
theorem sc__law_pick : FnScope ["pool", "items"] ["pool", "items"] (defScope (tp 23)) := ⟨rfl, rfl, rfl, by decide +kernel, rfl, by decide +kernel, by decide +kernel⟩
theorem ck__law_pick : ckSs ⟨["pool", "items"], fns, cons⟩ (defScope (tp 23)) m__law_pick.body (defBody (tp 23)) = true := by decide +kernel
theorem sc__law_bent : FnScope ["pool", "value", "turn", "at", "other", "items"] ["pool", "value"] (defScope (tp 24)) := ⟨rfl, rfl, rfl, by decide +kernel, rfl, by decide +kernel, by decide +kernel⟩
theorem ck__law_bent : ckSs ⟨["pool", "value", "turn", "at", "other", "items"], fns, cons⟩ (defScope (tp 24)) m__law_bent.body (defBody (tp 24)) = true := by decide +kernel
theorem sc__law_booled : FnScope ["value", "one"] ["value"] (defScope (tp 25)) := ⟨rfl, rfl, rfl, by decide +kernel, rfl, by decide +kernel, by decide +kernel⟩
theorem ck__law_booled : ckSs ⟨["value", "one"], fns, cons⟩ (defScope (tp 25)) m__law_booled.body (defBody (tp 25)) = true := by decide +kernel
theorem sc__law_listed : FnScope ["value", "deep", "one"] ["value", "deep"] (defScope (tp 26)) := ⟨rfl, rfl, rfl, by decide +kernel, rfl, by decide +kernel, by decide +kernel⟩
theorem ck__law_listed : ckSs ⟨["value", "deep", "one"], fns, cons⟩ (defScope (tp 26)) m__law_listed.body (defBody (tp 26)) = true := by decide +kernel
theorem sc__law_odd_values : FnScope ["deep", "k"] [] (defScope (tp 27)) := ⟨rfl, rfl, rfl, by decide +kernel, rfl, by decide +kernel, by decide +kernel⟩
theorem ck__law_odd_values : ckSs ⟨["deep", "k"], fns, cons⟩ (defScope (tp 27)) m__law_odd_values.body (defBody (tp 27)) = true := by decide +kernel
theorem sc__law_is_up : FnScope ["items", "k"] ["items"] (defScope (tp 28)) := ⟨rfl, rfl, rfl, by decide +kernel, rfl, by decide +kernel, by decide +kernel⟩
theorem ck__law_is_up : ckSs ⟨["items", "k"], fns, cons⟩ (defScope (tp 28)) m__law_is_up.body (defBody (tp 28)) = true := by decide +kernel
theorem sc__law_is_row : FnScope ["value", "many", "low", "high", "one"] ["value", "many", "low", "high"] (defScope (tp 29)) := ⟨rfl, rfl, rfl, by decide +kernel, rfl, by decide +kernel, by decide +kernel⟩
theorem ck__law_is_row : ckSs ⟨["value", "many", "low", "high", "one"], fns, cons⟩ (defScope (tp 29)) m__law_is_row.body (defBody (tp 29)) = true := by decide +kernel
theorem sc__law_least : FnScope ["items"] ["items"] (defScope (tp 30)) := ⟨rfl, rfl, rfl, by decide +kernel, rfl, by decide +kernel, by decide +kernel⟩
theorem ck__law_least : ckSs ⟨["items"], fns, cons⟩ (defScope (tp 30)) m__law_least.body (defBody (tp 30)) = true := by decide +kernel
theorem sc__law_first : FnScope ["faults", "one"] ["faults"] (defScope (tp 31)) := ⟨rfl, rfl, rfl, by decide +kernel, rfl, by decide +kernel, by decide +kernel⟩
theorem ck__law_first : ckSs ⟨["faults", "one"], fns, cons⟩ (defScope (tp 31)) m__law_first.body (defBody (tp 31)) = true := by decide +kernel
theorem sc__law_words : FnScope ["length", "found", "k", "longer", "word"] ["length"] (defScope (tp 32)) := ⟨rfl, rfl, rfl, by decide +kernel, rfl, by decide +kernel, by decide +kernel⟩
theorem ck__law_words : ckSs ⟨["length", "found", "k", "longer", "word"], fns, cons⟩ (defScope (tp 32)) m__law_words.body (defBody (tp 32)) = true := by decide +kernel
theorem sc__law_all_words : FnScope ["length", "found", "many"] ["length"] (defScope (tp 33)) := ⟨rfl, rfl, rfl, by decide +kernel, rfl, by decide +kernel, by decide +kernel⟩
theorem ck__law_all_words : ckSs ⟨["length", "found", "many"], fns, cons⟩ (defScope (tp 33)) m__law_all_words.body (defBody (tp 33)) = true := by decide +kernel
theorem sc__law_led : FnScope ["machine", "state", "word", "letter"] ["machine", "state", "word"] (defScope (tp 34)) := ⟨rfl, rfl, rfl, by decide +kernel, rfl, by decide +kernel, by decide +kernel⟩
theorem ck__law_led : ckSs ⟨["machine", "state", "word", "letter"], fns, cons⟩ (defScope (tp 34)) m__law_led.body (defBody (tp 34)) = true := by decide +kernel
theorem sc__law_takes : FnScope ["machine", "word"] ["machine", "word"] (defScope (tp 35)) := ⟨rfl, rfl, rfl, by decide +kernel, rfl, by decide +kernel, by decide +kernel⟩
theorem ck__law_takes : ckSs ⟨["machine", "word"], fns, cons⟩ (defScope (tp 35)) m__law_takes.body (defBody (tp 35)) = true := by decide +kernel
theorem sc__law_some_of : FnScope ["pool", "many", "k"] ["pool", "many"] (defScope (tp 36)) := ⟨rfl, rfl, rfl, by decide +kernel, rfl, by decide +kernel, by decide +kernel⟩
theorem ck__law_some_of : ckSs ⟨["pool", "many", "k"], fns, cons⟩ (defScope (tp 36)) m__law_some_of.body (defBody (tp 36)) = true := by decide +kernel
theorem sc__law_machine : FnScope ["pool", "most", "many", "k"] ["pool", "most"] (defScope (tp 37)) := ⟨rfl, rfl, rfl, by decide +kernel, rfl, by decide +kernel, by decide +kernel⟩
theorem ck__law_machine : ckSs ⟨["pool", "most", "many", "k"], fns, cons⟩ (defScope (tp 37)) m__law_machine.body (defBody (tp 37)) = true := by decide +kernel
theorem sc__law_swapped : FnScope ["pool", "value", "at", "other", "row"] ["pool", "value"] (defScope (tp 38)) := ⟨rfl, rfl, rfl, by decide +kernel, rfl, by decide +kernel, by decide +kernel⟩
theorem ck__law_swapped : ckSs ⟨["pool", "value", "at", "other", "row"], fns, cons⟩ (defScope (tp 38)) m__law_swapped.body (defBody (tp 38)) = true := by decide +kernel
theorem sc__law_changed : FnScope ["pool", "value", "things", "at"] ["pool", "value", "things"] (defScope (tp 39)) := ⟨rfl, rfl, rfl, by decide +kernel, rfl, by decide +kernel, by decide +kernel⟩
theorem ck__law_changed : ckSs ⟨["pool", "value", "things", "at"], fns, cons⟩ (defScope (tp 39)) m__law_changed.body (defBody (tp 39)) = true := by decide +kernel
theorem sc__law_bends : FnScope ["pool", "sample", "things", "found", "k"] ["pool", "sample"] (defScope (tp 40)) := ⟨rfl, rfl, rfl, by decide +kernel, rfl, by decide +kernel, by decide +kernel⟩
theorem ck__law_bends : ckSs ⟨["pool", "sample", "things", "found", "k"], fns, cons⟩ (defScope (tp 40)) m__law_bends.body (defBody (tp 40)) = true := by decide +kernel
theorem sc__law_f_machines : FnScope ["value", "last", "lost", "good", "k", "row"] ["value"] (defScope (tp 41)) := ⟨rfl, rfl, rfl, by decide +kernel, rfl, by decide +kernel, by decide +kernel⟩
theorem ck__law_f_machines : ckSs ⟨["value", "last", "lost", "good", "k", "row"], fns, cons⟩ (defScope (tp 41)) m__law_f_machines.body (defBody (tp 41)) = true := by decide +kernel
theorem sc_law : FnScope ["script", "pool", "turn", "machine", "made", "value", "one", "there", "word", "shown", "here"] ["script"] (defScope (tp 42)) := ⟨rfl, rfl, rfl, by decide +kernel, rfl, by decide +kernel, by decide +kernel⟩
theorem ck_law : ckSs ⟨["script", "pool", "turn", "machine", "made", "value", "one", "there", "word", "shown", "here"], fns, cons⟩ (defScope (tp 42)) m_law.body (defBody (tp 42)) = true := by decide +kernel
set_option maxHeartbeats 0 in
theorem all_mk {K : PySem.W.Frag} {h : Heap} {mg : Str → Option Value} (X : K.In h) (G : h.Ns mainGlobals mg)
    {f0 : Addr} {od0 an0 : Option Addr} {sl0 : Array (Option Value)} {oc0 kV0 dc0 pm0 cd0 ct0 : Value}
    {f1 : Addr} {od1 an1 : Option Addr} {sl1 : Array (Option Value)} {oc1 kV1 dc1 pm1 cd1 ct1 : Value}
    {f2 : Addr} {od2 an2 : Option Addr} {sl2 : Array (Option Value)} {oc2 kV2 dc2 pm2 cd2 ct2 : Value}
    {f3 : Addr} {od3 an3 : Option Addr} {sl3 : Array (Option Value)} {oc3 kV3 dc3 pm3 cd3 ct3 : Value}
    {f4 : Addr} {od4 an4 : Option Addr} {sl4 : Array (Option Value)} {oc4 kV4 dc4 pm4 cd4 ct4 : Value}
    {f5 : Addr} {od5 an5 : Option Addr} {sl5 : Array (Option Value)} {oc5 kV5 dc5 pm5 cd5 ct5 : Value}
    {f6 : Addr} {od6 an6 : Option Addr} {sl6 : Array (Option Value)} {oc6 kV6 dc6 pm6 cd6 ct6 : Value}
    {f7 : Addr} {od7 an7 : Option Addr} {sl7 : Array (Option Value)} {oc7 kV7 dc7 pm7 cd7 ct7 : Value}
    {f8 : Addr} {od8 an8 : Option Addr} {sl8 : Array (Option Value)} {oc8 kV8 dc8 pm8 cd8 ct8 : Value}
    {f9 : Addr} {od9 an9 : Option Addr} {sl9 : Array (Option Value)} {oc9 kV9 dc9 pm9 cd9 ct9 : Value}
    {f10 : Addr} {od10 an10 : Option Addr} {sl10 : Array (Option Value)} {oc10 kV10 dc10 pm10 cd10 ct10 : Value}
    {f11 : Addr} {od11 an11 : Option Addr} {sl11 : Array (Option Value)} {oc11 kV11 dc11 pm11 cd11 ct11 : Value}
    {f12 : Addr} {od12 an12 : Option Addr} {sl12 : Array (Option Value)} {oc12 kV12 dc12 pm12 cd12 ct12 : Value}
    {f13 : Addr} {od13 an13 : Option Addr} {sl13 : Array (Option Value)} {oc13 kV13 dc13 pm13 cd13 ct13 : Value}
    {f14 : Addr} {od14 an14 : Option Addr} {sl14 : Array (Option Value)} {oc14 kV14 dc14 pm14 cd14 ct14 : Value}
    {f15 : Addr} {od15 an15 : Option Addr} {sl15 : Array (Option Value)} {oc15 kV15 dc15 pm15 cd15 ct15 : Value}
    {f16 : Addr} {od16 an16 : Option Addr} {sl16 : Array (Option Value)} {oc16 kV16 dc16 pm16 cd16 ct16 : Value}
    {f17 : Addr} {od17 an17 : Option Addr} {sl17 : Array (Option Value)} {oc17 kV17 dc17 pm17 cd17 ct17 : Value}
    {f18 : Addr} {od18 an18 : Option Addr} {sl18 : Array (Option Value)} {oc18 kV18 dc18 pm18 cd18 ct18 : Value}
    {f19 : Addr} {od19 an19 : Option Addr} {sl19 : Array (Option Value)} {oc19 kV19 dc19 pm19 cd19 ct19 : Value}
    {f20 : Addr} {od20 an20 : Option Addr} {sl20 : Array (Option Value)} {oc20 kV20 dc20 pm20 cd20 ct20 : Value}
    {f21 : Addr} {od21 an21 : Option Addr} {sl21 : Array (Option Value)} {oc21 kV21 dc21 pm21 cd21 ct21 : Value}
    {f22 : Addr} {od22 an22 : Option Addr} {sl22 : Array (Option Value)} {oc22 kV22 dc22 pm22 cd22 ct22 : Value}
    {f23 : Addr} {od23 an23 : Option Addr} {sl23 : Array (Option Value)} {oc23 kV23 dc23 pm23 cd23 ct23 : Value}
    {f24 : Addr} {od24 an24 : Option Addr} {sl24 : Array (Option Value)} {oc24 kV24 dc24 pm24 cd24 ct24 : Value}
    {f25 : Addr} {od25 an25 : Option Addr} {sl25 : Array (Option Value)} {oc25 kV25 dc25 pm25 cd25 ct25 : Value}
    {f26 : Addr} {od26 an26 : Option Addr} {sl26 : Array (Option Value)} {oc26 kV26 dc26 pm26 cd26 ct26 : Value}
    {f27 : Addr} {od27 an27 : Option Addr} {sl27 : Array (Option Value)} {oc27 kV27 dc27 pm27 cd27 ct27 : Value}
    {f28 : Addr} {od28 an28 : Option Addr} {sl28 : Array (Option Value)} {oc28 kV28 dc28 pm28 cd28 ct28 : Value}
    {f29 : Addr} {od29 an29 : Option Addr} {sl29 : Array (Option Value)} {oc29 kV29 dc29 pm29 cd29 ct29 : Value}
    {f30 : Addr} {od30 an30 : Option Addr} {sl30 : Array (Option Value)} {oc30 kV30 dc30 pm30 cd30 ct30 : Value}
    {f31 : Addr} {od31 an31 : Option Addr} {sl31 : Array (Option Value)} {oc31 kV31 dc31 pm31 cd31 ct31 : Value}
    {f32 : Addr} {od32 an32 : Option Addr} {sl32 : Array (Option Value)} {oc32 kV32 dc32 pm32 cd32 ct32 : Value}
    {f33 : Addr} {od33 an33 : Option Addr} {sl33 : Array (Option Value)} {oc33 kV33 dc33 pm33 cd33 ct33 : Value}
    {f34 : Addr} {od34 an34 : Option Addr} {sl34 : Array (Option Value)} {oc34 kV34 dc34 pm34 cd34 ct34 : Value}
    {f35 : Addr} {od35 an35 : Option Addr} {sl35 : Array (Option Value)} {oc35 kV35 dc35 pm35 cd35 ct35 : Value}
    {f36 : Addr} {od36 an36 : Option Addr} {sl36 : Array (Option Value)} {oc36 kV36 dc36 pm36 cd36 ct36 : Value}
    {f37 : Addr} {od37 an37 : Option Addr} {sl37 : Array (Option Value)} {oc37 kV37 dc37 pm37 cd37 ct37 : Value}
    {p1 : Addr} {q1 : Option Addr} {n1 : Nat} {r1 : Array (Option Value)}
    {t2 : Nat}
    {t3 : Nat}
    {t4 : Nat}
    (a0 : PySem.W.nsIn K mainGlobals "is_whole" = some (some (.ref f0)))
    (l0 : K.lookup f0 = some ⟨oc0, od0, .func (PySem.W.fnOf "is_whole" "is_whole" (defArgs (tp 2)) (defBody (tp 2)) (defScope (tp 2)) .none kV0 dc0 pm0 an0 cd0 ct0), sl0⟩)
    (c0 : PySem.W.codeIn K cd0 "is_whole" = true) (k0 : PySem.W.keepIn K (.ref f0) = true)
    (a1 : PySem.W.nsIn K mainGlobals "is_from" = some (some (.ref f1)))
    (l1 : K.lookup f1 = some ⟨oc1, od1, .func (PySem.W.fnOf "is_from" "is_from" (defArgs (tp 3)) (defBody (tp 3)) (defScope (tp 3)) .none kV1 dc1 pm1 an1 cd1 ct1), sl1⟩)
    (c1 : PySem.W.codeIn K cd1 "is_from" = true) (k1 : PySem.W.keepIn K (.ref f1) = true)
    (a2 : PySem.W.nsIn K mainGlobals "is_row" = some (some (.ref f2)))
    (l2 : K.lookup f2 = some ⟨oc2, od2, .func (PySem.W.fnOf "is_row" "is_row" (defArgs (tp 4)) (defBody (tp 4)) (defScope (tp 4)) .none kV2 dc2 pm2 an2 cd2 ct2), sl2⟩)
    (c2 : PySem.W.codeIn K cd2 "is_row" = true) (k2 : PySem.W.keepIn K (.ref f2) = true)
    (a3 : PySem.W.nsIn K mainGlobals "is_up" = some (some (.ref f3)))
    (l3 : K.lookup f3 = some ⟨oc3, od3, .func (PySem.W.fnOf "is_up" "is_up" (defArgs (tp 5)) (defBody (tp 5)) (defScope (tp 5)) .none kV3 dc3 pm3 an3 cd3 ct3), sl3⟩)
    (c3 : PySem.W.codeIn K cd3 "is_up" = true) (k3 : PySem.W.keepIn K (.ref f3) = true)
    (a4 : PySem.W.nsIn K mainGlobals "first_true" = some (some (.ref f4)))
    (l4 : K.lookup f4 = some ⟨oc4, od4, .func (PySem.W.fnOf "first_true" "first_true" (defArgs (tp 6)) (defBody (tp 6)) (defScope (tp 6)) .none kV4 dc4 pm4 an4 cd4 ct4), sl4⟩)
    (c4 : PySem.W.codeIn K cd4 "first_true" = true) (k4 : PySem.W.keepIn K (.ref f4) = true)
    (a5 : PySem.W.nsIn K mainGlobals "fault_at" = some (some (.ref f5)))
    (l5 : K.lookup f5 = some ⟨oc5, od5, .func (PySem.W.fnOf "fault_at" "fault_at" (defArgs (tp 7)) (defBody (tp 7)) (defScope (tp 7)) .none kV5 dc5 pm5 an5 cd5 ct5), sl5⟩)
    (c5 : PySem.W.codeIn K cd5 "fault_at" = true) (k5 : PySem.W.keepIn K (.ref f5) = true)
    (a6 : PySem.W.nsIn K mainGlobals "first_of" = some (some (.ref f6)))
    (l6 : K.lookup f6 = some ⟨oc6, od6, .func (PySem.W.fnOf "first_of" "first_of" (defArgs (tp 8)) (defBody (tp 8)) (defScope (tp 8)) .none kV6 dc6 pm6 an6 cd6 ct6), sl6⟩)
    (c6 : PySem.W.codeIn K cd6 "first_of" = true) (k6 : PySem.W.keepIn K (.ref f6) = true)
    (a7 : PySem.W.nsIn K mainGlobals "has_form" = some (some (.ref f7)))
    (l7 : K.lookup f7 = some ⟨oc7, od7, .func (PySem.W.fnOf "has_form" "has_form" (defArgs (tp 11)) (defBody (tp 11)) (defScope (tp 11)) .none kV7 dc7 pm7 an7 cd7 ct7), sl7⟩)
    (c7 : PySem.W.codeIn K cd7 "has_form" = true) (k7 : PySem.W.keepIn K (.ref f7) = true)
    (a8 : PySem.W.nsIn K mainGlobals "fault" = some (some (.ref f8)))
    (l8 : K.lookup f8 = some ⟨oc8, od8, .func (PySem.W.fnOf "fault" "fault" (defArgs (tp 12)) (defBody (tp 12)) (defScope (tp 12)) .none kV8 dc8 pm8 an8 cd8 ct8), sl8⟩)
    (c8 : PySem.W.codeIn K cd8 "fault" = true) (k8 : PySem.W.keepIn K (.ref f8) = true)
    (a9 : PySem.W.nsIn K mainGlobals "led" = some (some (.ref f9)))
    (l9 : K.lookup f9 = some ⟨oc9, od9, .func (PySem.W.fnOf "led" "led" (defArgs (tp 13)) (defBody (tp 13)) (defScope (tp 13)) .none kV9 dc9 pm9 an9 cd9 ct9), sl9⟩)
    (c9 : PySem.W.codeIn K cd9 "led" = true) (k9 : PySem.W.keepIn K (.ref f9) = true)
    (a10 : PySem.W.nsIn K mainGlobals "has_word" = some (some (.ref f10)))
    (l10 : K.lookup f10 = some ⟨oc10, od10, .func (PySem.W.fnOf "has_word" "has_word" (defArgs (tp 14)) (defBody (tp 14)) (defScope (tp 14)) .none kV10 dc10 pm10 an10 cd10 ct10), sl10⟩)
    (c10 : PySem.W.codeIn K cd10 "has_word" = true) (k10 : PySem.W.keepIn K (.ref f10) = true)
    (a11 : PySem.W.nsIn K mainGlobals "from_machines" = some (some (.ref f11)))
    (l11 : K.lookup f11 = some ⟨oc11, od11, .func (PySem.W.fnOf "from_machines" "from_machines" (defArgs (tp 15)) (defBody (tp 15)) (defScope (tp 15)) .none kV11 dc11 pm11 an11 cd11 ct11), sl11⟩)
    (c11 : PySem.W.codeIn K cd11 "from_machines" = true) (k11 : PySem.W.keepIn K (.ref f11) = true)
    (a12 : PySem.W.nsIn K mainGlobals "to_machines" = some (some (.ref f12)))
    (l12 : K.lookup f12 = some ⟨oc12, od12, .func (PySem.W.fnOf "to_machines" "to_machines" (defArgs (tp 16)) (defBody (tp 16)) (defScope (tp 16)) .none kV12 dc12 pm12 an12 cd12 ct12), sl12⟩)
    (c12 : PySem.W.codeIn K cd12 "to_machines" = true) (k12 : PySem.W.keepIn K (.ref f12) = true)
    (a13 : PySem.W.nsIn K mainGlobals "_law_is_integer" = some (some (.ref f13)))
    (l13 : K.lookup f13 = some ⟨oc13, od13, .func (PySem.W.fnOf "_law_is_integer" "_law_is_integer" (defArgs (tp 18)) (defBody (tp 18)) (defScope (tp 18)) .none kV13 dc13 pm13 an13 cd13 ct13), sl13⟩)
    (c13 : PySem.W.codeIn K cd13 "_law_is_integer" = true) (k13 : PySem.W.keepIn K (.ref f13) = true)
    (a14 : PySem.W.nsIn K mainGlobals "_law_same" = some (some (.ref f14)))
    (l14 : K.lookup f14 = some ⟨oc14, od14, .func (PySem.W.fnOf "_law_same" "_law_same" (defArgs (tp 19)) (defBody (tp 19)) (defScope (tp 19)) .none kV14 dc14 pm14 an14 cd14 ct14), sl14⟩)
    (c14 : PySem.W.codeIn K cd14 "_law_same" = true) (k14 : PySem.W.keepIn K (.ref f14) = true)
    (a15 : PySem.W.nsIn K mainGlobals "_law_pool" = some (some (.ref f15)))
    (l15 : K.lookup f15 = some ⟨oc15, od15, .func (PySem.W.fnOf "_law_pool" "_law_pool" (defArgs (tp 20)) (defBody (tp 20)) (defScope (tp 20)) .none kV15 dc15 pm15 an15 cd15 ct15), sl15⟩)
    (c15 : PySem.W.codeIn K cd15 "_law_pool" = true) (k15 : PySem.W.keepIn K (.ref f15) = true)
    (a16 : PySem.W.nsIn K mainGlobals "_law_spread" = some (some (.ref f16)))
    (l16 : K.lookup f16 = some ⟨oc16, od16, .func (PySem.W.fnOf "_law_spread" "_law_spread" (defArgs (tp 21)) (defBody (tp 21)) (defScope (tp 21)) .none kV16 dc16 pm16 an16 cd16 ct16), sl16⟩)
    (c16 : PySem.W.codeIn K cd16 "_law_spread" = true) (k16 : PySem.W.keepIn K (.ref f16) = true)
    (a17 : PySem.W.nsIn K mainGlobals "_law_draw" = some (some (.ref f17)))
    (l17 : K.lookup f17 = some ⟨oc17, od17, .func (PySem.W.fnOf "_law_draw" "_law_draw" (defArgs (tp 22)) (defBody (tp 22)) (defScope (tp 22)) .none kV17 dc17 pm17 an17 cd17 ct17), sl17⟩)
    (c17 : PySem.W.codeIn K cd17 "_law_draw" = true) (k17 : PySem.W.keepIn K (.ref f17) = true)
    (a18 : PySem.W.nsIn K mainGlobals "_law_pick" = some (some (.ref f18)))
    (l18 : K.lookup f18 = some ⟨oc18, od18, .func (PySem.W.fnOf "_law_pick" "_law_pick" (defArgs (tp 23)) (defBody (tp 23)) (defScope (tp 23)) .none kV18 dc18 pm18 an18 cd18 ct18), sl18⟩)
    (c18 : PySem.W.codeIn K cd18 "_law_pick" = true) (k18 : PySem.W.keepIn K (.ref f18) = true)
    (a19 : PySem.W.nsIn K mainGlobals "_law_bent" = some (some (.ref f19)))
    (l19 : K.lookup f19 = some ⟨oc19, od19, .func (PySem.W.fnOf "_law_bent" "_law_bent" (defArgs (tp 24)) (defBody (tp 24)) (defScope (tp 24)) .none kV19 dc19 pm19 an19 cd19 ct19), sl19⟩)
    (c19 : PySem.W.codeIn K cd19 "_law_bent" = true) (k19 : PySem.W.keepIn K (.ref f19) = true)
    (a20 : PySem.W.nsIn K mainGlobals "_law_booled" = some (some (.ref f20)))
    (l20 : K.lookup f20 = some ⟨oc20, od20, .func (PySem.W.fnOf "_law_booled" "_law_booled" (defArgs (tp 25)) (defBody (tp 25)) (defScope (tp 25)) .none kV20 dc20 pm20 an20 cd20 ct20), sl20⟩)
    (c20 : PySem.W.codeIn K cd20 "_law_booled" = true) (k20 : PySem.W.keepIn K (.ref f20) = true)
    (a21 : PySem.W.nsIn K mainGlobals "_law_listed" = some (some (.ref f21)))
    (l21 : K.lookup f21 = some ⟨oc21, od21, .func (PySem.W.fnOf "_law_listed" "_law_listed" (defArgs (tp 26)) (defBody (tp 26)) (defScope (tp 26)) .none kV21 dc21 pm21 an21 cd21 ct21), sl21⟩)
    (c21 : PySem.W.codeIn K cd21 "_law_listed" = true) (k21 : PySem.W.keepIn K (.ref f21) = true)
    (a22 : PySem.W.nsIn K mainGlobals "_law_odd_values" = some (some (.ref f22)))
    (l22 : K.lookup f22 = some ⟨oc22, od22, .func (PySem.W.fnOf "_law_odd_values" "_law_odd_values" (defArgs (tp 27)) (defBody (tp 27)) (defScope (tp 27)) .none kV22 dc22 pm22 an22 cd22 ct22), sl22⟩)
    (c22 : PySem.W.codeIn K cd22 "_law_odd_values" = true) (k22 : PySem.W.keepIn K (.ref f22) = true)
    (a23 : PySem.W.nsIn K mainGlobals "_law_is_up" = some (some (.ref f23)))
    (l23 : K.lookup f23 = some ⟨oc23, od23, .func (PySem.W.fnOf "_law_is_up" "_law_is_up" (defArgs (tp 28)) (defBody (tp 28)) (defScope (tp 28)) .none kV23 dc23 pm23 an23 cd23 ct23), sl23⟩)
    (c23 : PySem.W.codeIn K cd23 "_law_is_up" = true) (k23 : PySem.W.keepIn K (.ref f23) = true)
    (a24 : PySem.W.nsIn K mainGlobals "_law_is_row" = some (some (.ref f24)))
    (l24 : K.lookup f24 = some ⟨oc24, od24, .func (PySem.W.fnOf "_law_is_row" "_law_is_row" (defArgs (tp 29)) (defBody (tp 29)) (defScope (tp 29)) .none kV24 dc24 pm24 an24 cd24 ct24), sl24⟩)
    (c24 : PySem.W.codeIn K cd24 "_law_is_row" = true) (k24 : PySem.W.keepIn K (.ref f24) = true)
    (a25 : PySem.W.nsIn K mainGlobals "_law_least" = some (some (.ref f25)))
    (l25 : K.lookup f25 = some ⟨oc25, od25, .func (PySem.W.fnOf "_law_least" "_law_least" (defArgs (tp 30)) (defBody (tp 30)) (defScope (tp 30)) .none kV25 dc25 pm25 an25 cd25 ct25), sl25⟩)
    (c25 : PySem.W.codeIn K cd25 "_law_least" = true) (k25 : PySem.W.keepIn K (.ref f25) = true)
    (a26 : PySem.W.nsIn K mainGlobals "_law_first" = some (some (.ref f26)))
    (l26 : K.lookup f26 = some ⟨oc26, od26, .func (PySem.W.fnOf "_law_first" "_law_first" (defArgs (tp 31)) (defBody (tp 31)) (defScope (tp 31)) .none kV26 dc26 pm26 an26 cd26 ct26), sl26⟩)
    (c26 : PySem.W.codeIn K cd26 "_law_first" = true) (k26 : PySem.W.keepIn K (.ref f26) = true)
    (a27 : PySem.W.nsIn K mainGlobals "_law_words" = some (some (.ref f27)))
    (l27 : K.lookup f27 = some ⟨oc27, od27, .func (PySem.W.fnOf "_law_words" "_law_words" (defArgs (tp 32)) (defBody (tp 32)) (defScope (tp 32)) .none kV27 dc27 pm27 an27 cd27 ct27), sl27⟩)
    (c27 : PySem.W.codeIn K cd27 "_law_words" = true) (k27 : PySem.W.keepIn K (.ref f27) = true)
    (a28 : PySem.W.nsIn K mainGlobals "_law_all_words" = some (some (.ref f28)))
    (l28 : K.lookup f28 = some ⟨oc28, od28, .func (PySem.W.fnOf "_law_all_words" "_law_all_words" (defArgs (tp 33)) (defBody (tp 33)) (defScope (tp 33)) .none kV28 dc28 pm28 an28 cd28 ct28), sl28⟩)
    (c28 : PySem.W.codeIn K cd28 "_law_all_words" = true) (k28 : PySem.W.keepIn K (.ref f28) = true)
    (a29 : PySem.W.nsIn K mainGlobals "_law_led" = some (some (.ref f29)))
    (l29 : K.lookup f29 = some ⟨oc29, od29, .func (PySem.W.fnOf "_law_led" "_law_led" (defArgs (tp 34)) (defBody (tp 34)) (defScope (tp 34)) .none kV29 dc29 pm29 an29 cd29 ct29), sl29⟩)
    (c29 : PySem.W.codeIn K cd29 "_law_led" = true) (k29 : PySem.W.keepIn K (.ref f29) = true)
    (a30 : PySem.W.nsIn K mainGlobals "_law_takes" = some (some (.ref f30)))
    (l30 : K.lookup f30 = some ⟨oc30, od30, .func (PySem.W.fnOf "_law_takes" "_law_takes" (defArgs (tp 35)) (defBody (tp 35)) (defScope (tp 35)) .none kV30 dc30 pm30 an30 cd30 ct30), sl30⟩)
    (c30 : PySem.W.codeIn K cd30 "_law_takes" = true) (k30 : PySem.W.keepIn K (.ref f30) = true)
    (a31 : PySem.W.nsIn K mainGlobals "_law_some_of" = some (some (.ref f31)))
    (l31 : K.lookup f31 = some ⟨oc31, od31, .func (PySem.W.fnOf "_law_some_of" "_law_some_of" (defArgs (tp 36)) (defBody (tp 36)) (defScope (tp 36)) .none kV31 dc31 pm31 an31 cd31 ct31), sl31⟩)
    (c31 : PySem.W.codeIn K cd31 "_law_some_of" = true) (k31 : PySem.W.keepIn K (.ref f31) = true)
    (a32 : PySem.W.nsIn K mainGlobals "_law_machine" = some (some (.ref f32)))
    (l32 : K.lookup f32 = some ⟨oc32, od32, .func (PySem.W.fnOf "_law_machine" "_law_machine" (defArgs (tp 37)) (defBody (tp 37)) (defScope (tp 37)) .none kV32 dc32 pm32 an32 cd32 ct32), sl32⟩)
    (c32 : PySem.W.codeIn K cd32 "_law_machine" = true) (k32 : PySem.W.keepIn K (.ref f32) = true)
    (a33 : PySem.W.nsIn K mainGlobals "_law_swapped" = some (some (.ref f33)))
    (l33 : K.lookup f33 = some ⟨oc33, od33, .func (PySem.W.fnOf "_law_swapped" "_law_swapped" (defArgs (tp 38)) (defBody (tp 38)) (defScope (tp 38)) .none kV33 dc33 pm33 an33 cd33 ct33), sl33⟩)
    (c33 : PySem.W.codeIn K cd33 "_law_swapped" = true) (k33 : PySem.W.keepIn K (.ref f33) = true)
    (a34 : PySem.W.nsIn K mainGlobals "_law_changed" = some (some (.ref f34)))
    (l34 : K.lookup f34 = some ⟨oc34, od34, .func (PySem.W.fnOf "_law_changed" "_law_changed" (defArgs (tp 39)) (defBody (tp 39)) (defScope (tp 39)) .none kV34 dc34 pm34 an34 cd34 ct34), sl34⟩)
    (c34 : PySem.W.codeIn K cd34 "_law_changed" = true) (k34 : PySem.W.keepIn K (.ref f34) = true)
    (a35 : PySem.W.nsIn K mainGlobals "_law_bends" = some (some (.ref f35)))
    (l35 : K.lookup f35 = some ⟨oc35, od35, .func (PySem.W.fnOf "_law_bends" "_law_bends" (defArgs (tp 40)) (defBody (tp 40)) (defScope (tp 40)) .none kV35 dc35 pm35 an35 cd35 ct35), sl35⟩)
    (c35 : PySem.W.codeIn K cd35 "_law_bends" = true) (k35 : PySem.W.keepIn K (.ref f35) = true)
    (a36 : PySem.W.nsIn K mainGlobals "_law_f_machines" = some (some (.ref f36)))
    (l36 : K.lookup f36 = some ⟨oc36, od36, .func (PySem.W.fnOf "_law_f_machines" "_law_f_machines" (defArgs (tp 41)) (defBody (tp 41)) (defScope (tp 41)) .none kV36 dc36 pm36 an36 cd36 ct36), sl36⟩)
    (c36 : PySem.W.codeIn K cd36 "_law_f_machines" = true) (k36 : PySem.W.keepIn K (.ref f36) = true)
    (a37 : PySem.W.nsIn K mainGlobals "law" = some (some (.ref f37)))
    (l37 : K.lookup f37 = some ⟨oc37, od37, .func (PySem.W.fnOf "law" "law" (defArgs (tp 42)) (defBody (tp 42)) (defScope (tp 42)) .none kV37 dc37 pm37 an37 cd37 ct37), sl37⟩)
    (c37 : PySem.W.codeIn K cd37 "law" = true) (k37 : PySem.W.keepIn K (.ref f37) = true)
    (z1 : PySem.W.nsIn K mainGlobals "len" = some none)
    (z2 : PySem.W.nsIn K mainGlobals "tuple" = some none)
    (z3 : PySem.W.nsIn K mainGlobals "list" = some none)
    (z4 : PySem.W.nsIn K mainGlobals "int" = some none)
    (z5 : PySem.W.nsIn K mainGlobals "bool" = some none)
    (z6 : PySem.W.nsIn K mainGlobals "all" = some none)
    (z7 : PySem.W.nsIn K mainGlobals "any" = some none)
    (z8 : PySem.W.nsIn K mainGlobals "max" = some none)
    (z9 : PySem.W.nsIn K mainGlobals "min" = some none)
    (z10 : PySem.W.nsIn K mainGlobals "sum" = some none)
    (z11 : PySem.W.nsIn K mainGlobals "repr" = some none)
    (z12 : PySem.W.nsIn K mainGlobals "isinstance" = some none)
    (z13 : PySem.W.nsIn K mainGlobals "str" = some none)
    (z14 : PySem.W.nsIn K mainGlobals "dict" = some none)
    (z15 : PySem.W.nsIn K mainGlobals "range" = some none)
    (mg0 : PySem.W.nsIn K mainGlobals "FORM" = some (some (.ref p1)))
    (y1 : K.lookup p1 = some ⟨.type "tuple", q1, .seq #[(.str "form" t2), (.int (0) t3)] n1, r1⟩)
    (mg1 : PySem.W.nsIn K mainGlobals "MOST" = some (some (.int (100000) t4))) :
    World' K mg cons C ∧ ∀ (j : Nat) (x : Str) (fd : FD), fns[j]? = some x → fs[j]? = some fd → DefOk K mg fns cons x fd := by
  refine ⟨⟨blt_mk X G z1 z2 z3 z4 z5 z6 z7 z8 z9 z10 z11 z12 z13 z14 z15, fun n x d e1 e2 => ?_⟩, fun j x fd e1 e2 => ?_⟩
  · exact AllCon.get (xs := cons) (ds := [(.tuple [(.str "form"), (.int 0)]), (.int 100000)]) ⟨con_mk X G mg0 (cv_tup y1 (.cons (cv_str K _ _) (.cons (cv_int K _ _) .nil)) (by decide)), con_mk X G mg1 (cv_int K _ _), trivial⟩ n x d e1 e2
  · exact AllOk.get (xs := fns) (ds := fs) ⟨
      dk_mk X G sc_is_whole ck_is_whole rfl rfl (fun _ _ _ _ _ _ us hl => match us, hl with | [_], _ => rfl) a0 l0 c0 k0,
      dk_mk X G sc_is_from ck_is_from rfl rfl (fun _ _ _ _ _ _ us hl => match us, hl with | [_, _, _], _ => rfl) a1 l1 c1 k1,
      dk_mk X G sc_is_row ck_is_row rfl rfl (fun _ _ _ _ _ _ us hl => match us, hl with | [_, _, _], _ => rfl) a2 l2 c2 k2,
      dk_mk X G sc_is_up ck_is_up rfl rfl (fun _ _ _ _ _ _ us hl => match us, hl with | [_, _], _ => rfl) a3 l3 c3 k3,
      dk_mk X G sc_first_true ck_first_true rfl rfl (fun _ _ _ _ _ _ us hl => match us, hl with | [_], _ => rfl) a4 l4 c4 k4,
      dk_mk X G sc_fault_at ck_fault_at rfl rfl (fun _ _ _ _ _ _ us hl => match us, hl with | [_, _], _ => rfl) a5 l5 c5 k5,
      dk_mk X G sc_first_of ck_first_of rfl rfl (fun _ _ _ _ _ _ us hl => match us, hl with | [_], _ => rfl) a6 l6 c6 k6,
      dk_mk X G sc_has_form ck_has_form rfl rfl (fun _ _ _ _ _ _ us hl => match us, hl with | [_], _ => rfl) a7 l7 c7 k7,
      dk_mk X G sc_fault ck_fault rfl rfl (fun _ _ _ _ _ _ us hl => match us, hl with | [_], _ => rfl) a8 l8 c8 k8,
      dk_mk X G sc_led ck_led rfl rfl (fun _ _ _ _ _ _ us hl => match us, hl with | [_, _, _], _ => rfl) a9 l9 c9 k9,
      dk_mk X G sc_has_word ck_has_word rfl rfl (fun _ _ _ _ _ _ us hl => match us, hl with | [_, _], _ => rfl) a10 l10 c10 k10,
      dk_mk X G sc_from_machines ck_from_machines rfl rfl (fun _ _ _ _ _ _ us hl => match us, hl with | [_], _ => rfl) a11 l11 c11 k11,
      dk_mk X G sc_to_machines ck_to_machines rfl rfl (fun _ _ _ _ _ _ us hl => match us, hl with | [_], _ => rfl) a12 l12 c12 k12,
      dk_mk X G sc__law_is_integer ck__law_is_integer rfl rfl (fun _ _ _ _ _ _ us hl => match us, hl with | [_], _ => rfl) a13 l13 c13 k13,
      dk_mk X G sc__law_same ck__law_same rfl rfl (fun _ _ _ _ _ _ us hl => match us, hl with | [_, _], _ => rfl) a14 l14 c14 k14,
      dk_mk X G sc__law_pool ck__law_pool rfl rfl (fun _ _ _ _ _ _ us hl => match us, hl with | [_], _ => rfl) a15 l15 c15 k15,
      dk_mk X G sc__law_spread ck__law_spread rfl rfl (fun _ _ _ _ _ _ us hl => match us, hl with | [_], _ => rfl) a16 l16 c16 k16,
      dk_mk X G sc__law_draw ck__law_draw rfl rfl (fun _ _ _ _ _ _ us hl => match us, hl with | [_, _], _ => rfl) a17 l17 c17 k17,
      dk_mk X G sc__law_pick ck__law_pick rfl rfl (fun _ _ _ _ _ _ us hl => match us, hl with | [_, _], _ => rfl) a18 l18 c18 k18,
      dk_mk X G sc__law_bent ck__law_bent rfl rfl (fun _ _ _ _ _ _ us hl => match us, hl with | [_, _], _ => rfl) a19 l19 c19 k19,
      dk_mk X G sc__law_booled ck__law_booled rfl rfl (fun _ _ _ _ _ _ us hl => match us, hl with | [_], _ => rfl) a20 l20 c20 k20,
      dk_mk X G sc__law_listed ck__law_listed rfl rfl (fun _ _ _ _ _ _ us hl => match us, hl with | [_, _], _ => rfl) a21 l21 c21 k21,
      dk_mk X G sc__law_odd_values ck__law_odd_values rfl rfl (fun _ _ _ _ _ _ us hl => match us, hl with | [], _ => rfl) a22 l22 c22 k22,
      dk_mk X G sc__law_is_up ck__law_is_up rfl rfl (fun _ _ _ _ _ _ us hl => match us, hl with | [_], _ => rfl) a23 l23 c23 k23,
      dk_mk X G sc__law_is_row ck__law_is_row rfl rfl (fun _ _ _ _ _ _ us hl => match us, hl with | [_, _, _, _], _ => rfl) a24 l24 c24 k24,
      dk_mk X G sc__law_least ck__law_least rfl rfl (fun _ _ _ _ _ _ us hl => match us, hl with | [_], _ => rfl) a25 l25 c25 k25,
      dk_mk X G sc__law_first ck__law_first rfl rfl (fun _ _ _ _ _ _ us hl => match us, hl with | [_], _ => rfl) a26 l26 c26 k26,
      dk_mk X G sc__law_words ck__law_words rfl rfl (fun _ _ _ _ _ _ us hl => match us, hl with | [_], _ => rfl) a27 l27 c27 k27,
      dk_mk X G sc__law_all_words ck__law_all_words rfl rfl (fun _ _ _ _ _ _ us hl => match us, hl with | [_], _ => rfl) a28 l28 c28 k28,
      dk_mk X G sc__law_led ck__law_led rfl rfl (fun _ _ _ _ _ _ us hl => match us, hl with | [_, _, _], _ => rfl) a29 l29 c29 k29,
      dk_mk X G sc__law_takes ck__law_takes rfl rfl (fun _ _ _ _ _ _ us hl => match us, hl with | [_, _], _ => rfl) a30 l30 c30 k30,
      dk_mk X G sc__law_some_of ck__law_some_of rfl rfl (fun _ _ _ _ _ _ us hl => match us, hl with | [_, _], _ => rfl) a31 l31 c31 k31,
      dk_mk X G sc__law_machine ck__law_machine rfl rfl (fun _ _ _ _ _ _ us hl => match us, hl with | [_, _], _ => rfl) a32 l32 c32 k32,
      dk_mk X G sc__law_swapped ck__law_swapped rfl rfl (fun _ _ _ _ _ _ us hl => match us, hl with | [_, _], _ => rfl) a33 l33 c33 k33,
      dk_mk X G sc__law_changed ck__law_changed rfl rfl (fun _ _ _ _ _ _ us hl => match us, hl with | [_, _, _], _ => rfl) a34 l34 c34 k34,
      dk_mk X G sc__law_bends ck__law_bends rfl rfl (fun _ _ _ _ _ _ us hl => match us, hl with | [_, _], _ => rfl) a35 l35 c35 k35,
      dk_mk X G sc__law_f_machines ck__law_f_machines rfl rfl (fun _ _ _ _ _ _ us hl => match us, hl with | [_], _ => rfl) a36 l36 c36 k36,
      dk_mk X G sc_law ck_law rfl rfl (fun _ _ _ _ _ _ us hl => match us, hl with | [_], _ => rfl) a37 l37 c37 k37,
      trivial⟩ j x fd e1 e2
end Mu

namespace Mu
open PySem
def isInt : D → Bool
  | .int _ => true
  | _ => false
theorem is_whole_ok (k : Nat) (v : D) (μ : Store) : G (k + 1) 0 [.d v] μ = some (.d (.bool (isInt v)), μ) := by
  rw [c_is_whole]
  cases v <;> simp [runD, m_is_whole, endD, isiD, isInt]
def fromB (lo hi : Int) : D → Bool
  | .int i => decide (lo ≤ i) && decide (i ≤ hi)
  | _ => false
theorem is_from_ok (k : Nat) (v : D) (lo hi : Int) (μ : Store) : G (k + 2) 1 [.d v, .d (.int lo), .d (.int hi)] μ = some (.d (.bool (fromB lo hi v)), μ) := by
  rw [c_is_from]
  cases v <;> simp [runD, m_is_from, endD, is_whole_ok, isInt, fromB]
  rename_i i
  by_cases h : lo ≤ i <;> simp [h]
def rowB (lo hi : Int) : D → Bool
  | .tuple xs => xs.all (fromB lo hi)
  | _ => false
theorem is_row_ok (k : Nat) (v : D) (lo hi : Int) (μ : Store) : G (k + 3) 2 [.d v, .d (.int lo), .d (.int hi)] μ = some (.d (.bool (rowB lo hi v)), μ) := by
  rw [c_is_row]
  cases v with
  | tuple xs =>
    simp [runD, m_is_row, endD, isiD]
    rw [ev_map (xs := xs) (w := .tuple xs) (μ1 := μ) (fun x => .bool (fromB lo hi x)) (by simp) (fun x hx => ⟨_, rfl, by simp [wipeR, is_from_ok]⟩)]
    have e := bi_all (fromB lo hi) xs
    simp [e, rowB]
  | _ => simp [runD, m_is_row, endD, isiD, rowB]
theorem row_ints {lo hi : Int} : ∀ {xs : List D}, xs.all (fromB lo hi) = true → ∃ ns : List Int, xs = ns.map .int ∧ ∀ n ∈ ns, lo ≤ n ∧ n ≤ hi
  | [], _ => ⟨[], rfl, fun _ h => by cases h⟩
  | x :: xs, h => by
    simp only [List.all_cons, Bool.and_eq_true] at h
    obtain ⟨ns, e, hn⟩ := row_ints h.2
    cases x with
    | int i =>
      have h1 := h.1
      simp [fromB] at h1
      refine ⟨i :: ns, by simp [e], fun n hm => ?_⟩
      rcases List.mem_cons.mp hm with rfl | hm
      · exact h1
      · exact hn n hm
    | _ => simp [fromB] at h
theorem ints_row (lo hi : Int) (ns : List Int) : rowB lo hi (.tuple (ns.map .int)) = ns.all fun n => decide (lo ≤ n) && decide (n ≤ hi) := by
  simp [rowB, List.all_map, fromB, Function.comp_def]
def nth (ns : List Int) (k : Nat) : Int := ns.getD k 0
def upI (ns : List Int) : Bool := (List.range (ns.length - 1)).all fun k => decide (nth ns k < nth ns (k + 1))
theorem at_ints {ns : List Int} {k : Nat} (h : k < ns.length) : L2.atI (ns.map PyData.int) (k : Int) = some (.int (nth ns k)) := by
  apply L2.atI_nat
  simp [List.getElem?_eq_getElem h, nth]
theorem is_up_ok (k : Nat) (ns : List Int) (hi : Int) (μ : Store) (z : ns.length ≤ sizeLine) : G (k + 4) 3 [.d (.tuple (ns.map .int)), .d (.int hi)] μ = some (.d (.bool (rowB 0 hi (.tuple (ns.map .int)) && upI ns)), μ) := by
  rw [c_is_up]
  simp [runD, m_is_up, endD, is_row_ok]
  cases hr : rowB 0 hi (.tuple (ns.map .int)) with
  | false => simp
  | true =>
    simp
    have r1 : rngOk 0 ((ns.length : Int) - 1) = true := rngOk_small (by omega) (by omega) (by omega) (by omega)
    rw [ev_map (xs := (List.range (ns.length - 1)).map fun (k : Nat) => PyData.int k) (w := .none) (μ1 := μ) (fun x => match x with | .int k => .bool (decide (nth ns k.toNat < nth ns (k.toNat + 1))) | _ => .none)]
    · have e := bi_all (fun k => decide (nth ns k < nth ns (k + 1))) (List.range (ns.length - 1))
      simp [Function.comp_def] at e ⊢
      simp [e, upI]
    · have e : rngD 0 ((ns.length : Int) - 1) = (List.range (ns.length - 1)).map fun (k : Nat) => PyData.int k := by
        unfold rngD
        rw [show ((ns.length : Int) - 1 - 0).toNat = ns.length - 1 by omega]
        congr 1
        funext k
        congr 1
        omega
      rw [← e]
      exact rng_ok (by simp) r1
    · intro x hx
      obtain ⟨j, hj, rfl⟩ := List.mem_map.mp hx
      have hj := List.mem_range.mp hj
      have h1 := at_ints (ns := ns) (k := j) (by omega)
      have h2 := at_ints (ns := ns) (k := j + 1) (by omega)
      refine ⟨_, rfl, ?_⟩
      simp [wipeR, h1]
      rw [show ((j : Int) + 1) = ((j + 1 : Nat) : Int) by omega, h2]
      simp
/-- the place of the first True -/
def ftrue : Nat → List Bool → D
  | _, [] => .none
  | k, b :: r => if b = true then .int k else ftrue (k + 1) r
theorem at_bools {bs : List Bool} {k : Nat} {b : Bool} (h : bs[k]? = some b) : L2.atI (bs.map PyData.bool) (k : Int) = some (.bool b) := by
  apply L2.atI_nat
  simp [h]
theorem first_true_ok (k : Nat) (bs : List Bool) (μ : Store) (z : bs.length ≤ sizeLine) : G (k + 1) 4 [.d (.list (bs.map .bool))] μ = some (.d (ftrue 0 bs), μ) := by
  rw [c_first_true]
  have r1 : rngOk 0 (bs.length : Int) = true := rngOk_small (by omega) (by omega) (by omega) (by omega)
  simp only [runD, m_first_true, evSs_cons, List.length_cons, List.length_nil, List.all_cons, List.all_nil, bdV_dd, Bool.and_true]
  obtain ⟨f, ρ', μ', e, p⟩ := ev_for (C := C) (F := G k) (tg := .nm 1) (it := .rng (.bi .len (.var 0))) (b := [.ife (.idx (.var 0) (.var 1)) [.ret (.var 1)] []]) (ρ := [some (.d (.list (bs.map .bool))), none]) (μ := μ) (xs := rngD 0 bs.length) (w := .none) (μ1 := μ)
    (fun r ρ m => ∃ (j : Nat) (x : Option Val), j + r.length = bs.length ∧ r = ((List.range' j r.length).map fun (k : Nat) => PyData.int k) ∧ ρ = [some (.d (.list (bs.map .bool))), x] ∧ m = μ ∧ ftrue j (bs.drop j) = ftrue 0 bs)
    (fun f ρ m => m = μ ∧ ((f = .nx ∧ ftrue 0 bs = .none) ∨ f = .ret (.d (ftrue 0 bs)))) (rng_ok (by simp) r1) (by
      refine ⟨0, none, by simp [rngD_len], ?_, rfl, rfl, by simp⟩
      rw [rngD_nat]
      simp [List.range_eq_range']) (by
      rintro x r ρ m ⟨j, y, hl, hr, rfl, rfl, hf⟩
      simp only [List.length_cons] at hl hr
      rw [List.range'_succ, List.map_cons] at hr
      obtain ⟨hx, hr2⟩ := List.cons.inj hr
      subst hx
      have hj : j < bs.length := by omega
      have h1 := at_bools (bs := bs) (k := j) (List.getElem?_eq_getElem hj)
      rw [List.drop_eq_getElem_cons hj] at hf
      refine ⟨_, rfl, ?_⟩
      cases hb : bs[j] with
      | true =>
        refine ⟨.ret (.d (.int j)), [some (.d (.list (bs.map .bool))), some (.d (.int j))], m, by simp [h1, hb], rfl, .inr ?_⟩
        rw [hb] at hf
        simp [ftrue] at hf
        rw [← hf]
      | false =>
        refine ⟨.nx, [some (.d (.list (bs.map .bool))), some (.d (.int j))], m, by simp [h1, hb], j + 1, _, by omega, hr2, rfl, rfl, ?_⟩
        rw [hb] at hf
        simpa [ftrue] using hf) (by
      rintro ρ m ⟨j, y, hl, hr, rfl, rfl, hf⟩
      refine ⟨rfl, .inl ⟨rfl, ?_⟩⟩
      rw [← hf, List.drop_of_length_le (by simp at hl; omega)]
      rfl)
  simp only [List.map_cons, List.map_nil, List.nil_append, Nat.reduceAdd, Nat.reduceSub, List.replicate_one, List.singleton_append, List.cons_append, e]
  obtain ⟨rfl, ⟨rfl, h⟩ | rfl⟩ := p
  · simp [endD, h]
  · simp [endD]
def faultAt (w : Str) : D → D
  | .none => .none
  | d => .tuple [.str w, d]
theorem fault_at_ok (k : Nat) (w : Str) (d : D) (μ : Store) : G (k + 1) 5 [.d (.str w), .d d] μ = some (.d (faultAt w d), μ) := by
  rw [c_fault_at]
  cases d <;> simp [runD, m_fault_at, endD, noneV, faultAt]
def firstOf2 : D → D → D
  | .none, y => y
  | x, _ => x
theorem first_of_ok (k : Nat) (x y : D) (μ : Store) : G (k + 1) 6 [.d (.list [x, y])] μ = some (.d (firstOf2 x y), μ) := by
  rw [c_first_of]
  cases x <;> simp [runD, m_first_of, endD, firstOf2, evS, evI, forO, tgS, Still, noneV] <;> cases y <;> simp [noneV, evS]
end Mu

namespace Mu
open PySem
def len2 : D → Bool
  | .tuple [_, _] => true
  | _ => false
def formB : D → Bool
  | .tuple [.tuple rows, g] => decide (1 ≤ rows.length) && decide (rows.length ≤ 100000) && rowB 0 100000 g && rows.all fun r => rowB 0 100000 r && len2 r
  | _ => false
@[simp] theorem C_form : C 0 = some (.tuple [.str "form", .int 0]) := rfl
@[simp] theorem C_most : C 1 = some (.int 100000) := rfl
theorem ne2 (n : Nat) : ¬ ((n : Int) + 1 + 1 + 1 = 2) := by omega
theorem two_len (xs : List D) : decide ((xs.length : Int) = 2) = len2 (.tuple xs) := by
  match xs with
  | [] => rfl
  | [_] => rfl
  | [_, _] => rfl
  | _ :: _ :: _ :: r => simp [len2]; omega
theorem has_form_ok (k : Nat) (v : D) (μ : Store) : G (k + 4) 7 [.d v] μ = some (.d (.bool (formB v)), μ) := by
  rw [c_has_form]
  cases v with
  | tuple xs =>
    match xs with
    | [] => simp [runD, m_has_form, endD, isiD, formB]
    | [_] => simp [runD, m_has_form, endD, isiD, formB]
    | _ :: _ :: _ :: r => simp [runD, m_has_form, endD, isiD, formB, ne2]
    | [a, b] =>
      cases a with
      | tuple rows =>
        simp [runD, m_has_form, endD, isiD, is_row_ok, formB]
        by_cases h1 : (1 : Int) ≤ rows.length
        · by_cases h2 : (rows.length : Int) ≤ 100000
          · have h1' : 1 ≤ rows.length := by omega
            have h2' : rows.length ≤ 100000 := by omega
            cases h3 : rowB 0 100000 b with
            | false => simp [h1, h2]
            | true =>
              simp [h1, h2, h1', h2']
              rw [ev_map (xs := rows) (w := .tuple rows) (μ1 := μ) (fun x => .bool (rowB 0 100000 x && len2 x)) (by simp) (fun x hx => ⟨_, rfl, ?_⟩)]
              · have e := bi_all (fun x => rowB 0 100000 x && len2 x) rows
                simp [e]
              · cases x with
                | tuple ys =>
                  cases h : rowB 0 100000 (.tuple ys) <;> simp [wipeR, is_row_ok, h, two_len]
                | _ => simp [wipeR, is_row_ok, rowB]
          · have h2' : ¬ rows.length ≤ 100000 := by omega
            simp [h1, h2, h2']
        · have h1' : ¬ 1 ≤ rows.length := by omega
          simp [h1, h1']
      | _ => simp [runD, m_has_form, endD, isiD, formB]
  | _ => simp [runD, m_has_form, endD, isiD, formB]
def rowD (p : Int × Int) : D := .tuple [.int p.1, .int p.2]
def machD (rows : List (Int × Int)) (gs : List Int) : D := .tuple [.tuple (rows.map rowD), .tuple (gs.map .int)]
theorem rows_of : ∀ {xs : List D}, (xs.all fun r => rowB 0 100000 r && len2 r) = true → ∃ rows : List (Int × Int), xs = rows.map rowD ∧ ∀ p ∈ rows, 0 ≤ p.1 ∧ 0 ≤ p.2
  | [], _ => ⟨[], rfl, fun _ h => by cases h⟩
  | x :: xs, h => by
    simp only [List.all_cons, Bool.and_eq_true] at h
    obtain ⟨rows, e, hn⟩ := rows_of (xs := xs) (by simpa using h.2)
    cases x with
    | tuple ys =>
      match ys, h with
      | [a, b], h =>
        obtain ⟨ns, e2, hm⟩ := row_ints (xs := [a, b]) (by simpa [rowB] using h.1.1)
        match ns, e2 with
        | [i, j], e2 =>
          simp at e2
          obtain ⟨rfl, rfl⟩ := e2
          refine ⟨(i, j) :: rows, by simp [e, rowD], fun p hp => ?_⟩
          rcases List.mem_cons.mp hp with rfl | hp
          · exact ⟨(hm i (by simp)).1, (hm j (by simp)).1⟩
          · exact hn p hp
      | [], h => simp [len2] at h
      | [_], h => simp [len2] at h
      | _ :: _ :: _ :: _, h => simp [len2] at h
    | _ => simp [len2] at h
theorem form_mach {v : D} (h : formB v = true) : ∃ rows gs, v = machD rows gs ∧ 1 ≤ rows.length ∧ rows.length ≤ 100000 ∧ (∀ p ∈ rows, 0 ≤ p.1 ∧ 0 ≤ p.2) ∧ ∀ g ∈ gs, 0 ≤ g := by
  unfold formB at h
  split at h
  · rename_i rs g
    simp only [Bool.and_eq_true, decide_eq_true_eq] at h
    obtain ⟨⟨⟨h1, h2⟩, h3⟩, h4⟩ := h
    obtain ⟨rows, rfl, hr⟩ := rows_of h4
    cases g with
    | tuple ys =>
      obtain ⟨gs, rfl, hg⟩ := row_ints (xs := ys) (by simpa [rowB] using h3)
      exact ⟨rows, gs, rfl, by simpa using h1, by simpa using h2, hr, fun g hm => (hg g hm).1⟩
    | _ => simp [rowB] at h3
  · cases h
theorem rowB_rowD {lo hi : Int} (p : Int × Int) : (rowB lo hi (rowD p) && len2 (rowD p)) = (decide (lo ≤ p.1) && decide (p.1 ≤ hi) && (decide (lo ≤ p.2) && decide (p.2 ≤ hi))) := by
  simp [rowB, rowD, len2, fromB]
def badRow (last : Int) (p : Int × Int) : Bool := decide (last < max p.1 p.2)
def goodOk (last : Int) (gs : List Int) : Bool := rowB 0 last (.tuple (gs.map .int)) && upI gs
def fmM (rows : List (Int × Int)) (gs : List Int) : D :=
  firstOf2 (faultAt "step" (ftrue 0 (rows.map (badRow ((rows.length : Int) - 1))))) (faultAt "good" (if goodOk ((rows.length : Int) - 1) gs = true then .none else .int 0))
theorem max_row (p : Int × Int) : biD .max (rowD p) = some (.int (max p.1 p.2)) := by
  have := bi_max (n := p.1) (ns := [p.2])
  simpa [rowD] using this
theorem fault_bad (k : Nat) (v : D) (μ : Store) (h : formB v = false) : G (k + 6) 8 [.d v] μ = some (.d (.tuple [.str "form", .int 0]), μ) := by
  rw [c_fault]
  simp [runD, m_fault, endD, has_form_ok, h]
theorem fault_good (k : Nat) (rows : List (Int × Int)) (gs : List Int) (μ : Store) (h : formB (machD rows gs) = true) (z : gs.length ≤ sizeLine) (z2 : rows.length ≤ 100000) : G (k + 6) 8 [.d (machD rows gs)] μ = some (.d (fmM rows gs), μ) := by
  rw [c_fault]
  have hs : rows.length ≤ sizeLine := Nat.le_trans z2 (by decide)
  have ft := first_true_ok (k + 4) (rows.map (badRow ((rows.length : Int) - 1))) μ (by rw [List.length_map]; exact hs)
  simp [runD, m_fault, endD, has_form_ok, h]
  simp only [machD, idx_t, atI_zero, atI_one, Option.map_some, Option.bind_some, rd1_d, bi_len_t, rd2_d, bop_sub, bdV_dd, if_true, nxt_nx, evSs_cons, evS_set, evE_call, evVs_cons, evVs_nil, List.length_map]
  rw [ev_map (xs := rows.map rowD) (w := .tuple (rows.map rowD)) (μ1 := μ) (fun x => match biD .max x with | some (.int m) => .bool (decide (((rows.length : Int) - 1) < m)) | _ => .none)]
  · have e : ((rows.map rowD).map fun x => match biD .max x with | some (.int m) => PyData.bool (decide (((rows.length : Int) - 1) < m)) | _ => .none) = (rows.map (badRow ((rows.length : Int) - 1))).map .bool := by
      simp only [List.map_map]
      apply List.map_congr_left
      intro p hp
      simp [max_row, badRow]
    rw [e]
    have up : G (k + 5) 3 [.d (.tuple (gs.map .int)), .d (.int ((rows.length : Int) - 1))] μ = some (.d (.bool (goodOk ((rows.length : Int) - 1) gs)), μ) := is_up_ok (k + 1) gs ((rows.length : Int) - 1) μ z
    simp only [Option.bind_some, ft]
    unfold fmM
    generalize ftrue 0 (rows.map (badRow ((rows.length : Int) - 1))) = fr
    simp [up]
    cases hg : goodOk ((rows.length : Int) - 1) gs <;> simp [fault_at_ok, first_of_ok]
  · simp
  · intro x hx
    obtain ⟨p, hp, rfl⟩ := List.mem_map.mp hx
    refine ⟨_, rfl, ?_⟩
    simp [wipeR, max_row]
end Mu

namespace Mu
open PySem
theorem law_int_ok (k : Nat) (v : D) (μ : Store) : G (k + 1) 13 [.d v] μ = some (.d (.bool (isInt v)), μ) := by
  rw [c__law_is_integer]
  cases v <;> simp [runD, m__law_is_integer, endD, isiD, isInt]
theorem none_left {α : Type} (c : α → Bool) (xs : List α) : decide (((xs.filter fun x => !c x).length : Int) = 0) = xs.all c := by
  rw [Bool.eq_iff_iff]
  simp [List.filter_eq_nil_iff, List.all_eq_true]
theorem some_left {α : Type} (c : α → Bool) (xs : List α) : decide ((0 : Int) < ((xs.filter fun x => !c x).length : Int)) = !xs.all c := by
  rw [← none_left c xs]
  generalize (xs.filter fun x => !c x).length = n
  cases n with
  | zero => rfl
  | succ n =>
    rw [decide_eq_true (by omega), decide_eq_false (by omega)]
    rfl
theorem law_row_comp (k : Nat) (xs : List D) (m : D) (lo hi : Int) (μ : Store) : evE C (G (k + 1)) (.comp [4] (.nm 4) (.seq (.var 0)) (.cons (.bor (.cons (.inot (.call 13 (.cons (.var 4) .nil))) (.cons (.cmp .lt (.var 4) (.var 2)) (.cons (.cmp .gt (.var 4) (.var 3)) .nil)))) .nil) (.var 4))
    [some (.d (.tuple xs)), some (.d m), some (.d (.int lo)), some (.d (.int hi)), none] μ = some (.d (.list ((xs.filter fun x => !fromB lo hi x).map id)), μ) := by
  refine ev_comp (w := .tuple xs) (fun x => !fromB lo hi x) id (by simp) fun x hx => ⟨_, rfl, ?_, fun _ => by simp [wipeR]⟩
  cases x with
  | int i =>
    simp [wipeR, law_int_ok, isInt, fromB]
    by_cases h1 : i < lo
    · have : ¬ lo ≤ i := by omega
      simp [h1, this]
    · have : lo ≤ i := by omega
      by_cases h2 : hi < i
      · have : ¬ i ≤ hi := by omega
        simp [h1, h2, this]
      · have h3 : i ≤ hi := by omega
        simp [h1, h2, h3, this]
  | _ => simp [wipeR, law_int_ok, isInt, fromB]
theorem law_row0_ok (k : Nat) (v : D) (lo hi : Int) (μ : Store) : G (k + 2) 24 [.d v, .d .none, .d (.int lo), .d (.int hi)] μ = some (.d (.bool (rowB lo hi v)), μ) := by
  rw [c__law_is_row]
  cases v with
  | tuple xs =>
    simp [runD, m__law_is_row, endD, isiD, law_row_comp, noneV]
    have h := none_left (fromB lo hi) xs
    simp [rowB, ← h]
  | _ => simp [runD, m__law_is_row, endD, isiD, rowB]
theorem law_row2_ok (k : Nat) (v : D) (lo hi : Int) (μ : Store) : G (k + 2) 24 [.d v, .d (.int 2), .d (.int lo), .d (.int hi)] μ = some (.d (.bool (rowB lo hi v && len2 v)), μ) := by
  rw [c__law_is_row]
  cases v with
  | tuple xs =>
    have h := none_left (fromB lo hi) xs
    cases h2 : len2 (.tuple xs) with
    | false => simp [runD, m__law_is_row, endD, isiD, noneV, two_len, h2]
    | true => simp [runD, m__law_is_row, endD, isiD, noneV, two_len, h2, law_row_comp, rowB, ← h]
  | _ => simp [runD, m__law_is_row, endD, isiD, rowB]
def leastI : List Int → D
  | [] => .none
  | n :: ns => .int (ns.foldl min n)
theorem bi_min {n : Int} {ns : List Int} : biD .min (.list ((n :: ns).map .int)) = some (.int (ns.foldl min n)) := by
  simp only [biD, intsD_map']
theorem ne_nil (ns : List Int) : cmpD .ne (.list (ns.map .int)) (.list []) = some (.bool (!ns.isEmpty)) := by
  have := eqD_of (x := .list (ns.map .int)) (y := .list []) rfl (shp_lints ns) shp_lnil
  simp only [cmpD, this, Option.map_some]
  congr 2
  simp [PyData.eqv]
theorem least_ok (k : Nat) (ns : List Int) (μ : Store) : G (k + 1) 25 [.d (.list (ns.map .int))] μ = some (.d (leastI ns), μ) := by
  rw [c__law_least]
  cases ns with
  | nil =>
    have h := ne_nil []
    simp at h
    simp [runD, m__law_least, endD, h, leastI]
  | cons n ns =>
    have h := ne_nil (n :: ns)
    have h2 := bi_min (n := n) (ns := ns)
    simp at h h2
    simp [runD, m__law_least, endD, h, h2, leastI]
def idxT : Nat → List Bool → List Int
  | _, [] => []
  | k, b :: r => if b = true then (k : Int) :: idxT (k + 1) r else idxT (k + 1) r
theorem idxT_ge : ∀ (bs : List Bool) (k : Nat), ∀ n ∈ idxT k bs, (k : Int) ≤ n
  | [], _, _, h => by cases h
  | b :: bs, k, n, h => by
    have ih := idxT_ge bs (k + 1) n
    cases b with
    | true =>
      simp [idxT] at h
      rcases h with rfl | h
      · omega
      · have := ih h; omega
    | false =>
      simp [idxT] at h
      have := ih h; omega
theorem foldl_min {n : Int} : ∀ {ns : List Int}, (∀ m ∈ ns, n ≤ m) → ns.foldl min n = n
  | [], _ => rfl
  | m :: ns, h => by
    have h1 := h m List.mem_cons_self
    rw [List.foldl_cons, Int.min_eq_left h1]
    exact foldl_min fun y hy => h y (List.mem_cons_of_mem _ hy)
theorem leastT : ∀ (bs : List Bool) (k : Nat), leastI (idxT k bs) = ftrue k bs
  | [], _ => rfl
  | b :: bs, k => by
    cases b with
    | true =>
      simp [idxT, ftrue, leastI]
      exact foldl_min fun m hm => by have := idxT_ge bs (k + 1) m hm; omega
    | false => simp [idxT, ftrue, leastT bs (k + 1)]
theorem filt_idx (c : Nat → Bool) : ∀ (n j : Nat), ((List.range' j n).filter c).map (fun (k : Nat) => (k : Int)) = idxT j ((List.range' j n).map c)
  | 0, _ => rfl
  | n + 1, j => by
    rw [List.range'_succ, List.map_cons]
    cases h : c j with
    | true => simp [List.filter_cons, h, idxT, filt_idx c n (j + 1)]
    | false => simp [List.filter_cons, h, idxT, filt_idx c n (j + 1)]
theorem law_first_ok (k : Nat) (w1 w2 : Str) (x y : D) (μ : Store) : G (k + 1) 26 [.d (.list [.tuple [.str w1, x], .tuple [.str w2, y]])] μ = some (.d (firstOf2 (faultAt w1 x) (faultAt w2 y)), μ) := by
  rw [c__law_first]
  cases x <;> simp [runD, m__law_first, endD, firstOf2, faultAt, evS, evI_seq, forO, tgS, Still, noneV] <;> cases y <;> simp [noneV, evS, firstOf2, faultAt]
theorem law_up_ok (k : Nat) (ns : List Int) (μ : Store) (z : ns.length ≤ sizeLine) : G (k + 1) 23 [.d (.tuple (ns.map .int))] μ = some (.d (.bool (upI ns)), μ) := by
  rw [c__law_is_up]
  simp [runD, m__law_is_up, endD]
  have r1 : rngOk 1 (ns.length : Int) = true := rngOk_small (by omega) (by omega) (by omega) (by omega)
  have hl : rngD 1 (ns.length : Int) = (List.range (ns.length - 1)).map fun (k : Nat) => PyData.int (1 + (k : Int)) := by
    unfold rngD
    rw [show ((ns.length : Int) - 1).toNat = ns.length - 1 by omega]
  have e := ev_comp (C := C) (F := G k) (ρ := [some (.d (.tuple (ns.map .int))), none]) (μ := μ) (μ1 := μ) (own := [1]) (tg := .nm 1) (it := .rng2 (.int 1) (.bi .len (.var 0))) (cs := .cons (.inot (.cmp .lt (.idx (.var 0) (.bop .sub (.var 1) (.int 1))) (.idx (.var 0) (.var 1)))) .nil) (elt := .var 1) (w := .none)
    (fun x => match x with | .int k => !decide (nth ns (k - 1).toNat < nth ns k.toNat) | _ => false) id (rng2_ok (μ1 := μ) (by simp) (by simp) r1) (by
      intro x hx
      rw [hl] at hx
      obtain ⟨j, hj, rfl⟩ := List.mem_map.mp hx
      have hj := List.mem_range.mp hj
      have h1 := at_ints (ns := ns) (k := j) (by omega)
      have h2 := at_ints (ns := ns) (k := j + 1) (by omega)
      refine ⟨_, rfl, ?_, fun _ => by simp [wipeR]⟩
      simp [wipeR]
      rw [show (1 + (j : Int) - 1) = (j : Int) by omega, show (1 + (j : Int)) = ((j + 1 : Nat) : Int) by omega, h1, h2]
      simp)
  have h := none_left (fun j => decide (nth ns j < nth ns (j + 1))) (List.range (ns.length - 1))
  have e2 : (List.range (ns.length - 1)).filter ((fun x : D => match x with | .int k => !decide (nth ns (k - 1).toNat < nth ns k.toNat) | _ => false) ∘ fun (k : Nat) => PyData.int (1 + (k : Int))) = (List.range (ns.length - 1)).filter fun j => !decide (nth ns j < nth ns (j + 1)) := by
    apply List.filter_congr
    intro j _
    simp only [Function.comp_apply]
    rw [show (1 + (j : Int) - 1).toNat = j by omega, show (1 + (j : Int)).toNat = j + 1 by omega]
  rw [hl, List.filter_map, e2, List.map_id] at e
  have h3 : decide ((((List.range (ns.length - 1)).filter fun j => !decide (nth ns j < nth ns (j + 1))).length : Int) = 0) = upI ns := h
  rw [e]
  simp only [Option.bind_some, rd1_d, bi_len_l, Option.map_some, rd2_d, cmp_eq_i, List.length_map, h3]
  simp
end Mu

namespace Mu
open PySem
theorem law_rows_comp (k : Nat) (rows : List D) (g : D) (μ : Store) : evE C (G (k + 2)) (.comp [5] (.nm 5) (.seq (.idx (.var 0) (.int 0))) (.cons (.inot (.call 24 (.cons (.var 5) (.cons (.int 2) (.cons (.int 0) (.cons (.int 100000) .nil)))))) .nil) (.var 5))
    [some (.d (.tuple [.tuple rows, g])), none, none, none, none, none] μ = some (.d (.list ((rows.filter fun x => !(rowB 0 100000 x && len2 x)).map id)), μ) := by
  refine ev_comp (w := .tuple rows) (fun x => !(rowB 0 100000 x && len2 x)) id (by simp) fun x hx => ⟨_, rfl, ?_, fun _ => by simp [wipeR]⟩
  simp only [wipeR, List.set, tgS, evCs_one, evE_inot, evE_call, evVs_cons, evVs_nil, evE_var, evE_int, List.getElem?_cons_zero, List.getElem?_cons_succ, Option.bind_some, law_row2_ok, toT_b]
theorem lawf_bad (k : Nat) (v : D) (μ : Store) (h : formB v = false) : G (k + 3) 36 [.d v] μ = some (.d (.tuple [.str "form", .int 0]), μ) := by
  rw [c__law_f_machines]
  cases v with
  | tuple xs =>
    match xs, h with
    | [], _ => simp [runD, m__law_f_machines, endD, isiD]
    | [_], _ => simp [runD, m__law_f_machines, endD, isiD]
    | _ :: _ :: _ :: r, _ => simp [runD, m__law_f_machines, endD, isiD, ne2]
    | [a, b], h =>
      cases a with
      | tuple rows =>
        by_cases h1 : (rows.length : Int) < 1
        · simp [runD, m__law_f_machines, endD, isiD, h1]
        · by_cases h2 : (100000 : Int) < rows.length
          · simp [runD, m__law_f_machines, endD, isiD, h1, h2]
          · cases h3 : rowB 0 100000 b with
            | false => simp [runD, m__law_f_machines, endD, isiD, h1, h2, law_row0_ok, h3]
            | true =>
              have h4 : (rows.all fun r => rowB 0 100000 r && len2 r) = false := by
                have e1 : 1 ≤ rows.length := by omega
                have e2 : rows.length ≤ 100000 := by omega
                simp only [formB, h3, decide_eq_true e1, decide_eq_true e2, Bool.true_and] at h
                exact h
              have h5 := some_left (fun r => rowB 0 100000 r && len2 r) rows
              rw [h4] at h5
              simp only [runD, m__law_f_machines, List.length_cons, List.length_nil, List.all_cons, List.all_nil, bdV_dd, Bool.and_true, evSs_cons, evS_ife, evE_bor]
              simp [isiD, h1, h2, law_row0_ok, h3]
              simp only [law_rows_comp, Option.bind_some, rd1_d, bi_len_l, Option.map_some, rd2_d, cmp_gt, List.length_map, h5]
              simp [endD]
      | _ => simp [runD, m__law_f_machines, endD, isiD]
  | _ => simp [runD, m__law_f_machines, endD, isiD]
theorem row_at {rows : List (Int × Int)} {k : Nat} (h : k < rows.length) : L2.atI (rows.map rowD) (k : Int) = some (rowD rows[k]) := by
  apply L2.atI_nat
  simp [h]
theorem law_lost_comp (k : Nat) (rows : List (Int × Int)) (gs : D) (μ : Store) (z : rows.length ≤ 100000) : evE C (G (k + 2)) (.comp [4] (.nm 4) (.rng (.bop .add (.var 1) (.int 1))) (.cons (.cmp .gt (.bi .max (.idx (.idx (.var 0) (.int 0)) (.var 4))) (.var 1)) .nil) (.var 4))
    [some (.d (.tuple [.tuple (rows.map rowD), gs])), some (.d (.int ((rows.length : Int) - 1))), none, none, none, none] μ = some (.d (.list ((idxT 0 (rows.map (badRow ((rows.length : Int) - 1)))).map .int)), μ) := by
  have big : (100000 : Nat) ≤ sizeLine := by decide
  have r1 : rngOk 0 ((rows.length : Int) - 1 + 1) = true := rngOk_small (by omega) (by omega) (by omega) (by omega)
  have hl : rngD 0 ((rows.length : Int) - 1 + 1) = (List.range' 0 rows.length).map fun (k : Nat) => PyData.int k := by
    rw [show ((rows.length : Int) - 1 + 1) = (rows.length : Int) by omega, rngD_nat, List.range_eq_range']
  have e := ev_comp (C := C) (F := G (k + 2)) (ρ := [some (.d (.tuple [.tuple (rows.map rowD), gs])), some (.d (.int ((rows.length : Int) - 1))), none, none, none, none]) (μ := μ) (μ1 := μ) (own := [4]) (tg := .nm 4) (it := .rng (.bop .add (.var 1) (.int 1)))
    (cs := .cons (.cmp .gt (.bi .max (.idx (.idx (.var 0) (.int 0)) (.var 4))) (.var 1)) .nil) (elt := .var 4) (w := .none)
    (fun x => match x with | .int k => (match rows[k.toNat]? with | some p => badRow ((rows.length : Int) - 1) p | none => false) | _ => false) id (rng_ok (by simp) r1) (by
      intro x hx
      rw [hl] at hx
      obtain ⟨j, hj, rfl⟩ := List.mem_map.mp hx
      have hj : j < rows.length := by
        have := List.mem_range'_1.mp hj
        omega
      refine ⟨_, rfl, ?_, fun _ => by simp [wipeR]⟩
      simp [wipeR, row_at hj, max_row, hj, badRow])
  rw [hl, List.filter_map, List.map_id] at e
  rw [e]
  have f := filt_idx (fun j => match rows[j]? with | some p => badRow ((rows.length : Int) - 1) p | none => false) rows.length 0
  have f2 : (List.range' 0 rows.length).map (fun j => match rows[j]? with | some p => badRow ((rows.length : Int) - 1) p | none => false) = rows.map (badRow ((rows.length : Int) - 1)) := by
    apply List.ext_getElem
    · simp
    · intro i h1 h2
      simp at h2
      simp [h2]
  rw [f2] at f
  rw [← f, List.map_map]
  rfl
theorem good_same (last : Int) (gs : List Int) (h : ∀ g ∈ gs, 0 ≤ g) : goodOk last gs = (upI gs && gs.all fun g => decide (g ≤ last)) := by
  unfold goodOk
  rw [ints_row, Bool.and_comm]
  congr 1
  rw [Bool.eq_iff_iff]
  simp only [List.all_eq_true, Bool.and_eq_true, decide_eq_true_eq]
  exact ⟨fun q g hg => (q g hg).2, fun q g hg => ⟨h g hg, q g hg⟩⟩
theorem law_good_comp (k : Nat) (a : D) (gs : List Int) (last : Int) (l2 : D) (μ : Store) : evE C (G (k + 2)) (.comp [4] (.nm 4) (.seq (.idx (.var 0) (.int 1))) (.cons (.cmp .gt (.var 4) (.var 1)) .nil) (.var 4))
    [some (.d (.tuple [a, .tuple (gs.map .int)])), some (.d (.int last)), some (.d l2), none, none, none] μ = some (.d (.list ((gs.filter fun g => !decide (g ≤ last)).map .int)), μ) := by
  have e := ev_comp (C := C) (F := G (k + 2)) (ρ := [some (.d (.tuple [a, .tuple (gs.map .int)])), some (.d (.int last)), some (.d l2), none, none, none]) (μ := μ) (μ1 := μ) (own := [4]) (tg := .nm 4) (it := .seq (.idx (.var 0) (.int 1))) (cs := .cons (.cmp .gt (.var 4) (.var 1)) .nil) (elt := .var 4)
    (xs := gs.map .int) (w := .tuple (gs.map .int)) (fun x => match x with | .int g => !decide (g ≤ last) | _ => false) id (by simp) (by
      intro x hx
      obtain ⟨g, hg, rfl⟩ := List.mem_map.mp hx
      refine ⟨_, rfl, ?_, fun _ => by simp [wipeR]⟩
      by_cases h : g ≤ last
      · have : ¬ last < g := by omega
        simp [wipeR, h, this]
      · have : last < g := by omega
        simp [wipeR, h, this])
  rw [List.filter_map, List.map_id] at e
  rw [e]
  rfl
theorem lawf_good (k : Nat) (rows : List (Int × Int)) (gs : List Int) (μ : Store) (h : formB (machD rows gs) = true) (z : gs.length ≤ sizeLine) (z2 : 1 ≤ rows.length) (z3 : rows.length ≤ 100000) (hg : ∀ g ∈ gs, 0 ≤ g) :
    G (k + 3) 36 [.d (machD rows gs)] μ = some (.d (fmM rows gs), μ) := by
  rw [c__law_f_machines]
  have hh := h
  simp only [formB, machD, Bool.and_eq_true, decide_eq_true_eq] at hh
  obtain ⟨⟨⟨_, _⟩, h3⟩, h4⟩ := hh
  have h5 := some_left (fun r => rowB 0 100000 r && len2 r) (rows.map rowD)
  rw [h4] at h5
  have h1 : ¬ (rows.length : Int) < 1 := by omega
  have h2 : ¬ (100000 : Int) < rows.length := by omega
  have up := law_up_ok (k + 1) gs μ z
  have lst := least_ok (k + 1) (idxT 0 (rows.map (badRow ((rows.length : Int) - 1)))) μ
  have fst := law_first_ok (k + 1) "step" "good"
  have hgd := good_same ((rows.length : Int) - 1) gs hg
  have h6 := some_left (fun g => decide (g ≤ (rows.length : Int) - 1)) gs
  rw [leastT] at lst
  simp only [runD, m__law_f_machines, List.length_cons, List.length_nil, List.all_cons, List.all_nil, bdV_dd, Bool.and_true, evSs_cons, evS_ife, evE_bor, machD]
  simp [isiD, h1, h2, law_row0_ok, h3]
  simp only [law_rows_comp, Option.bind_some, rd1_d, bi_len_l, Option.map_some, rd2_d, cmp_gt, List.length_map, h5]
  simp
  simp only [law_lost_comp k rows _ μ z3, Option.bind_some, bdV_dd, if_true, nxt_nx, List.set]
  simp [up]
  unfold fmM
  cases hu : upI gs with
  | false =>
    simp [lst, fst, hgd, hu, endD]
  | true =>
    simp
    simp only [law_good_comp, Option.bind_some, rd1_d, bi_len_l, Option.map_some, rd2_d, cmp_gt, List.length_map, h6]
    cases ha : gs.all fun g => decide (g ≤ (rows.length : Int) - 1) <;> simp only [hgd, hu, ha] <;> simp [lst, fst, endD]
end Mu

namespace Mu
open PySem
inductive Pl : Nat → D → Prop where
  | non (n : Nat) : Pl n .none
  | bl (n : Nat) (b : Bool) : Pl n (.bool b)
  | int (n : Nat) (i : Int) : Pl n (.int i)
  | str (n : Nat) (x : Str) : Pl n (.str x)
  | tup {n : Nat} {xs : List D} (z : xs.length ≤ sizeLine) (h : ∀ x ∈ xs, Pl n x) : Pl (n + 1) (.tuple xs)
  | lst {n : Nat} {xs : List D} (z : xs.length ≤ sizeLine) (h : ∀ x ∈ xs, Pl n x) : Pl (n + 1) (.list xs)
theorem same_comp (k : Nat) (xs : List D) (v : D) (hv : ∀ i, idxD v (.int i) = L2.atI xs i) (hl : biD .len v = some (.int xs.length)) (z : xs.length ≤ sizeLine) (μ : Store) (h : ∀ x ∈ xs, G k 14 [.d x, .d x] μ = some (.d (.bool true), μ)) :
    evE C (G k) (.comp [2] (.nm 2) (.rng (.bi .len (.var 1))) (.cons (.inot (.call 14 (.cons (.idx (.var 0) (.var 2)) (.cons (.idx (.var 1) (.var 2)) .nil)))) .nil) (.var 2)) [some (.d v), some (.d v), none] μ = some (.d (.list []), μ) := by
  have r1 : rngOk 0 (xs.length : Int) = true := rngOk_small (by omega) (by omega) (by omega) (by omega)
  have e := ev_comp (C := C) (F := G k) (ρ := [some (.d v), some (.d v), none]) (μ := μ) (μ1 := μ) (own := [2]) (tg := .nm 2) (it := .rng (.bi .len (.var 1)))
    (cs := .cons (.inot (.call 14 (.cons (.idx (.var 0) (.var 2)) (.cons (.idx (.var 1) (.var 2)) .nil)))) .nil) (elt := .var 2) (w := .none) (fun _ => false) id (rng_ok (by simp [hl]) r1) (by
      intro x hx
      obtain ⟨i, rfl, h0, h1⟩ := rngD_mem hx
      refine ⟨_, rfl, ?_, fun _ => by simp [wipeR]⟩
      have ha := atI_ok (xs := xs) h0 h1
      simp [wipeR, hv, ha]
      rw [h _ (List.getElem_mem _)]
      simp)
  rw [e]
  simp
theorem same_refl {n : Nat} {v : D} (h : Pl n v) : ∀ (k : Nat) (μ : Store), G (k + n + 1) 14 [.d v, .d v] μ = some (.d (.bool true), μ) := by
  induction h with
  | non n => intro k μ; rw [c__law_same]; simp [runD, m__law_same, endD, isiD, noneV]
  | bl n b => intro k μ; rw [c__law_same]; cases b <;> simp [runD, m__law_same, endD, isiD, noneV]
  | int n b => intro k μ; rw [c__law_same]; simp [runD, m__law_same, endD, isiD, noneV]
  | str n b => intro k μ; rw [c__law_same]; simp [runD, m__law_same, endD, isiD, noneV]
  | @tup n xs z h ih =>
    intro k μ
    rw [c__law_same]
    have h2 := same_comp (k + (n + 1)) xs (.tuple xs) (fun _ => rfl) rfl z μ fun x hx => ih x hx k μ
    simp -implicitDefEqProofs only [runD, m__law_same, evSs_cons, evS_ife, evS_ret, evE_cmp, evE_bi]
    simp -implicitDefEqProofs [endD, isiD]
    rw [h2]
    simp
  | @lst n xs z h ih =>
    intro k μ
    rw [c__law_same]
    have h2 := same_comp (k + (n + 1)) xs (.list xs) (fun _ => rfl) rfl z μ fun x hx => ih x hx k μ
    simp -implicitDefEqProofs only [runD, m__law_same, evSs_cons, evS_ife, evS_ret, evE_cmp, evE_bi]
    simp -implicitDefEqProofs [endD, isiD]
    rw [h2]
    simp
/-! ### draws -/
@[simp] theorem rd2_p (xs : List D) (r : Store) (y : D) (f : D → D → Option D) : rd2 (some xs :: r) (.p 0) (.d y) f = (f (.list xs) y).map fun z => (.d z, some xs :: r) := rfl
@[simp] theorem put_1 (a b c d e y : D) : putV [some [a, b, c, d, e]] (.p 0) 1 y = some [some [a, y, c, d, e]] := rfl
@[simp] theorem put_2 (a b c d e y : D) : putV [some [a, b, c, d, e]] (.p 0) 2 y = some [some [a, b, y, d, e]] := rfl
@[simp] theorem put_3 (a b c d e y : D) : putV [some [a, b, c, d, e]] (.p 0) 3 y = some [some [a, b, c, y, e]] := rfl
def poolD (cs : List Int) (a b c s : Int) : List D := [.list (cs.map .int), .int a, .int b, .int c, .int s]
def GP (μ : Store) : Prop := ∃ cs a b c s, μ = [some (poolD cs a b c s)] ∧ 0 ≤ a
theorem spread_ok (k : Nat) (c : Int) (μ : Store) : ∃ z, G (k + 1) 16 [.d (.int c)] μ = some (.d (.int z), μ) := by
  rw [c__law_spread]
  simp [runD, m__law_spread, bop_mod]
  obtain ⟨f, ρ', μ', e, z, rfl, rfl, x, y, w, rfl⟩ := ev_for (C := C) (F := G k) (tg := .nm 3) (it := .rng (.int 4)) (b := [.set 1 (.bop .mod (.bi .int (.bop .add (.bop .add (.bop .mul (.var 1) (.int 48271)) (.int 12345)) (.var 3))) (.int 2147483647)), .set 2 (.bop .add (.bop .mul (.var 2) (.int 2147483647)) (.var 1))])
    (ρ := [some (.d (.int c)), some (.d (.int (c % 2147483647))), some (.d (.int 1)), none]) (μ := μ) (xs := rngD 0 4) (w := .none) (μ1 := μ)
    (fun r ρ m => (∀ x ∈ r, ∃ i, x = PyData.int i) ∧ m = μ ∧ ∃ a b x, ρ = [some (.d (.int c)), some (.d (.int a)), some (.d (.int b)), x])
    (fun f ρ m => ∃ z, f = .nx ∧ m = μ ∧ ∃ x y w, ρ = [x, y, some (.d (.int z)), w]) (rng_ok (by simp) (by decide)) ⟨fun x hx => let ⟨i, e, _⟩ := rngD_mem hx; ⟨i, e⟩, rfl, _, _, _, rfl⟩ (by
      rintro x r ρ m ⟨hr, rfl, a, b, y, rfl⟩
      obtain ⟨i, rfl⟩ := hr x List.mem_cons_self
      refine ⟨_, rfl, .nx, [some (.d (.int c)), some (.d (.int ((a * 48271 + 12345 + i) % 2147483647))), some (.d (.int (b * 2147483647 + (a * 48271 + 12345 + i) % 2147483647))), some (.d (.int i))], m, ?_, fun y hy => hr y (List.mem_cons_of_mem _ hy), rfl, _, _, _, rfl⟩
      simp [bop_mul _ _ (mulOk_r a (j := 48271) (by decide) (by decide)), bop_mul _ _ (mulOk_r b (j := 2147483647) (by decide) (by decide)), bop_mod])
    (by
      rintro ρ m ⟨hr, rfl, a, b, y, rfl⟩
      exact ⟨b, rfl, rfl, _, _, _, rfl⟩)
  refine ⟨z, ?_⟩
  rw [e]
  simp [endD]
theorem draw_ok (k : Nat) (many : Int) (μ : Store) (h : GP μ) (h1 : 0 < many) (h2 : many < 1073741824) : ∃ r μ', G (k + 2) 17 [.p 0, .d (.int many)] μ = some (.d (.int r), μ') ∧ GP μ' ∧ 0 ≤ r ∧ r < many := by
  obtain ⟨cs, a, b, c, s, rfl, ha⟩ := h
  rw [c__law_draw]
  have fin : ∀ (a b : Int) (x : Option Val), 0 ≤ a → ∃ r μ', (evSs C (G (k + 1)) (m__law_draw.body.drop 1) [some (.p 0), some (.d (.int many)), none, x, none] [some (poolD cs a b c s)]).bind (fun x => match x.1 with | .nx => endD [some (poolD cs 0 0 0 0)] (.d .none) x.2.2 | .ret v => endD [some (poolD cs 0 0 0 0)] v x.2.2 | _ => none) = some (.d (.int r), μ') ∧ GP μ' ∧ 0 ≤ r ∧ r < many := by
    intro a b x ha
    by_cases hb : b ≤ 0
    · refine ⟨((s * 48271 + (c + 1) * 69621 + 1) % 2147483647 * 16807 + (c + 1)) % 2147483629 / 5 % many, [some (poolD cs a b (c + 1) s)], ?_, ⟨_, _, _, _, _, rfl, ha⟩, Int.emod_nonneg _ (by omega), Int.emod_lt_of_pos _ h1⟩
      simp -implicitDefEqProofs [m__law_draw, poolD, hb, bop_mul _ _ (mulOk_r s (j := 48271) (by decide) (by decide)), bop_mul _ _ (mulOk_r (c + 1) (j := 69621) (by decide) (by decide)), bop_mul _ _ (mulOk_r ((s * 48271 + (c + 1) * 69621 + 1) % 2147483647) (j := 16807) (by decide) (by decide)), bop_mod, bop_fdiv, h1, endD]
    · refine ⟨b % many, [some (poolD cs a (b / many) (c + 1) s)], ?_, ⟨_, _, _, _, _, rfl, ha⟩, Int.emod_nonneg _ (by omega), Int.emod_lt_of_pos _ h1⟩
      simp -implicitDefEqProofs [m__law_draw, poolD, hb, bop_mod, bop_fdiv, h1, h2, endD]
  have step : ∃ a' b' x, 0 ≤ a' ∧ evS C (G (k + 1)) (m__law_draw.body.headD .pass) [some (.p 0), some (.d (.int many)), none, none, none] [some (poolD cs a b c s)] = some (.nx, [some (.p 0), some (.d (.int many)), none, x, none], [some (poolD cs a' b' c s)]) := by
    by_cases hb : b ≤ 0
    · by_cases hc : a < cs.length
      · have hat : L2.atI (cs.map PyData.int) a = some (.int (nth cs a.toNat)) := by
          have := at_ints (ns := cs) (k := a.toNat) (by omega)
          rwa [show ((a.toNat : Nat) : Int) = a by omega] at this
        obtain ⟨z, hz⟩ := spread_ok k (nth cs a.toNat) [some (poolD cs (a + 1) (nth cs a.toNat) c s)]
        by_cases hl : nth cs a.toNat < 1000000000000000000
        · refine ⟨a + 1, z, some (.d (.int (nth cs a.toNat))), by omega, ?_⟩
          simp only [poolD] at hz
          simp -implicitDefEqProofs [m__law_draw, poolD, hb, hc, hat, hl, hz]
        · refine ⟨a + 1, nth cs a.toNat, some (.d (.int (nth cs a.toNat))), by omega, ?_⟩
          simp -implicitDefEqProofs [m__law_draw, poolD, hb, hc, hat, hl]
      · refine ⟨a, b, none, ha, ?_⟩
        simp -implicitDefEqProofs [m__law_draw, poolD, hb, hc]
    · refine ⟨a, b, none, ha, ?_⟩
      simp -implicitDefEqProofs [m__law_draw, poolD, hb]
  obtain ⟨a', b', x, ha', e⟩ := step
  obtain ⟨r, μ', e2, g, h3, h4⟩ := fin a' b' x ha'
  refine ⟨r, μ', ?_, g, h3, h4⟩
  have cut : m__law_draw.body = m__law_draw.body.headD .pass :: m__law_draw.body.drop 1 := rfl
  unfold runD
  rw [cut]
  simp only [evSs_cons (r := m__law_draw.body.drop 1)]
  rw [if_pos ⟨rfl, by simp [bdV]⟩]
  have e' : evS C (G (k + 1)) (m__law_draw.body.headD .pass) (List.map some [Val.p 0, .d (.int many)] ++ List.replicate (m__law_draw.n - m__law_draw.ps) none) [some (poolD cs a b c s)] = _ := e
  rw [e', Option.bind_some, nxt_nx]
  rw [← e2]
  all_goals congr 1
theorem len_i (n : Nat) (h : n < 1073741824) : (n : Int) < 1073741824 := by omega
end Mu

namespace Mu
open PySem
theorem pool_ok (k : Nat) (ns : List Int) : ∃ pl, G (k + 1) (mB + 15) [.d (.list (ns.map .int))] [] = some (.d (.list pl), []) ∧ GP [some pl] := by
  rw [cM__law_pool]
  obtain ⟨f, ρ', μ', e, z, rfl, rfl, w, rfl⟩ := ev_for (C := C) (F := G k) (tg := .nm 2) (it := .seq (.sli (.var 0) .no (.so (.int 63)))) (b := [.set 1 (.bop .mod (.bi .int (.bop .add (.bop .mul (.var 1) (.int 31)) (.var 2))) (.int 1000003))])
    (ρ := [some (.d (.list (ns.map .int))), some (.d (.int 7)), none]) (μ := []) (xs := cutD (ns.map .int) none (some 63)) (w := .list (cutD (ns.map .int) none (some 63))) (μ1 := [])
    (fun r ρ m => (∀ x ∈ r, ∃ i, x = PyData.int i) ∧ m = [] ∧ ∃ a x, ρ = [some (.d (.list (ns.map .int))), some (.d (.int a)), x])
    (fun f ρ m => ∃ z, f = .nx ∧ m = [] ∧ ∃ w, ρ = [some (.d (.list (ns.map .int))), some (.d (.int z)), w]) (by simp) ⟨fun x hx => by
      obtain ⟨i, _, rfl⟩ := List.mem_map.mp (cutD_mem hx)
      exact ⟨i, rfl⟩, rfl, _, _, rfl⟩ (by
      rintro x r ρ m ⟨hr, rfl, a, y, rfl⟩
      obtain ⟨i, rfl⟩ := hr x List.mem_cons_self
      refine ⟨_, rfl, .nx, [some (.d (.list (ns.map .int))), some (.d (.int ((a * 31 + i) % 1000003))), some (.d (.int i))], [], ?_, fun y hy => hr y (List.mem_cons_of_mem _ hy), rfl, _, _, rfl⟩
      simp -implicitDefEqProofs [bop_mul _ _ (mulOk_r a (j := 31) (by decide) (by decide)), bop_mod])
    (by
      rintro ρ m ⟨hr, rfl, a, y, rfl⟩
      exact ⟨a, rfl, rfl, _, rfl⟩)
  refine ⟨poolD ns 0 0 0 z, ?_, _, _, _, _, _, rfl, by decide⟩
  simp -implicitDefEqProofs [runM, m__law_pool]
  rw [e]
  simp [endM, poolD]
/-! ### machines and words -/
def wd (w : List Int) : D := .tuple (w.map .int)
def bits (w : List Int) : Prop := ∀ l ∈ w, l = 0 ∨ l = 1
structure MG (rows : List (Int × Int)) (gs : List Int) : Prop where
  pos : 1 ≤ rows.length
  few : rows.length ≤ 5
  to : ∀ p ∈ rows, 0 ≤ p.1 ∧ p.1 < rows.length ∧ 0 ≤ p.2 ∧ p.2 < rows.length
  goods : ∀ g ∈ gs, 0 ≤ g ∧ g < rows.length
  gup : upI gs = true
  gfew : gs.length ≤ 5
def stp (rows : List (Int × Int)) (s l : Int) : Int := if l = 0 then (rows.getD s.toNat (0, 0)).1 else (rows.getD s.toNat (0, 0)).2
def ledI (rows : List (Int × Int)) : Int → List Int → Int
  | s, [] => s
  | s, l :: ls => ledI rows (stp rows s l) ls
theorem stp_in {rows : List (Int × Int)} {gs : List Int} (h : MG rows gs) {s : Int} (h0 : 0 ≤ s) (h1 : s < rows.length) (l : Int) : 0 ≤ stp rows s l ∧ stp rows s l < rows.length := by
  have hm : rows.getD s.toNat (0, 0) ∈ rows := by
    have : s.toNat < rows.length := by omega
    simp [this]
  obtain ⟨a, b, c, d⟩ := h.to _ hm
  unfold stp
  split
  · exact ⟨a, b⟩
  · exact ⟨c, d⟩
theorem led_step (k : Nat) {rows : List (Int × Int)} {gs : List Int} (h : MG rows gs) (μ : Store) (a b c : Option Val) (s : Int) (h0 : 0 ≤ s) (h1 : s < rows.length) (l : Int) (hl : l = 0 ∨ l = 1) :
    evE C (G k) (.idx (.idx (.idx (.var 0) (.int 0)) (.var 1)) (.var 3)) [some (.d (machD rows gs)), some (.d (.int s)), c, some (.d (.int l))] μ = some (.d (.int (stp rows s l)), μ) := by
  have hs : s.toNat < rows.length := by omega
  have e := row_at (rows := rows) (k := s.toNat) hs
  rw [show ((s.toNat : Nat) : Int) = s by omega] at e
  have e2 : rows.getD s.toNat (0, 0) = rows[s.toNat] := by simp [hs]
  rcases hl with rfl | rfl
  · simp [machD, e, rowD, stp, hs]
  · simp [machD, e, rowD, stp, hs]
theorem led_loop (k : Nat) {rows : List (Int × Int)} {gs : List Int} (h : MG rows gs) (w : List Int) (hw : bits w) (μ : Store) (s : Int) (h0 : 0 ≤ s) (h1 : s < rows.length) :
    ∃ ρ', evS C (G k) (.for_ (.nm 3) (.seq (.var 2)) [.set 1 (.idx (.idx (.idx (.var 0) (.int 0)) (.var 1)) (.var 3))]) [some (.d (machD rows gs)), some (.d (.int s)), some (.d (wd w)), none] μ = some (.nx, ρ', μ) ∧ ρ'[1]? = some (some (.d (.int (ledI rows s w)))) := by
  obtain ⟨f, ρ', μ', e, rfl, rfl, p⟩ := ev_for (C := C) (F := G k) (tg := .nm 3) (it := .seq (.var 2)) (b := [.set 1 (.idx (.idx (.idx (.var 0) (.int 0)) (.var 1)) (.var 3))]) (ρ := [some (.d (machD rows gs)), some (.d (.int s)), some (.d (wd w)), none]) (μ := μ) (xs := w.map .int) (w := wd w) (μ1 := μ)
    (fun r ρ m => ∃ (w' : List Int) (t : Int) (x : Option Val), r = w'.map .int ∧ bits w' ∧ 0 ≤ t ∧ t < rows.length ∧ ledI rows t w' = ledI rows s w ∧ m = μ ∧ ρ = [some (.d (machD rows gs)), some (.d (.int t)), some (.d (wd w)), x])
    (fun f ρ m => f = .nx ∧ m = μ ∧ ρ[1]? = some (some (.d (.int (ledI rows s w))))) (by simp [wd]) ⟨w, s, none, rfl, hw, h0, h1, rfl, rfl, rfl⟩ (by
      rintro x r ρ m ⟨w', t, y, hr, hb, t0, t1, hq, rfl, rfl⟩
      cases w' with
      | nil => cases hr
      | cons l w' =>
        cases hr
        obtain ⟨u0, u1⟩ := stp_in h t0 t1 l
        refine ⟨_, rfl, .nx, [some (.d (machD rows gs)), some (.d (.int (stp rows t l))), some (.d (wd w)), some (.d (.int l))], m, ?_, w', stp rows t l, _, rfl, fun z hz => hb z (List.mem_cons_of_mem _ hz), u0, u1, hq, rfl, rfl⟩
        have e := led_step k h m none none (some (.d (wd w))) t t0 t1 l (hb l List.mem_cons_self)
        simp only [evSs_cons, evS_set, List.set, e]
        simp)
    (by
      rintro ρ m ⟨w', t, y, hr, hb, t0, t1, hq, rfl, rfl⟩
      cases w' with
      | nil => exact ⟨rfl, rfl, by rw [← hq]; rfl⟩
      | cons l w' => cases hr)
  exact ⟨ρ', e, p⟩
theorem led_ok (k : Nat) {rows : List (Int × Int)} {gs : List Int} (h : MG rows gs) (w : List Int) (hw : bits w) (μ : Store) : G (k + 1) 9 [.d (machD rows gs), .d (.int 0), .d (wd w)] μ = some (.d (.int (ledI rows 0 w)), μ) := by
  rw [c_led]
  obtain ⟨ρ', e, p⟩ := led_loop k h w hw μ 0 (by omega) (by have := h.pos; omega)
  simp -implicitDefEqProofs [runD, m_led]
  rw [e]
  simp [p, endD]
theorem law_led_ok (k : Nat) {rows : List (Int × Int)} {gs : List Int} (h : MG rows gs) (w : List Int) (hw : bits w) (μ : Store) : G (k + 1) 29 [.d (machD rows gs), .d (.int 0), .d (wd w)] μ = some (.d (.int (ledI rows 0 w)), μ) := by
  rw [c__law_led]
  obtain ⟨ρ', e, p⟩ := led_loop k h w hw μ 0 (by omega) (by have := h.pos; omega)
  simp -implicitDefEqProofs [runD, m__law_led]
  rw [e]
  simp [p, endD]
def tk (rows : List (Int × Int)) (gs : List Int) (w : List Int) : Bool := (gs.map PyData.int).any fun z => PyData.eqv z (.int (ledI rows 0 w))
theorem in_goods (z : Int) (gs : List Int) : cmpD .inn (.int z) (.tuple (gs.map .int)) = some (.bool ((gs.map PyData.int).any fun y => PyData.eqv y (.int z))) := by
  simp only [cmpD, shp_int, shp_tints, and_self, if_true]
theorem has_word_ok (k : Nat) {rows : List (Int × Int)} {gs : List Int} (h : MG rows gs) (w : List Int) (hw : bits w) (μ : Store) : G (k + 2) 10 [.d (machD rows gs), .d (wd w)] μ = some (.d (.bool (tk rows gs w)), μ) := by
  rw [c_has_word]
  simp -implicitDefEqProofs [runD, m_has_word, led_ok k h w hw]
  simp only [machD, idx_t, atI_one, Option.map_some, Option.bind_some, rd2_d, in_goods]
  simp [endD, tk]
theorem takes_ok (k : Nat) {rows : List (Int × Int)} {gs : List Int} (h : MG rows gs) (w : List Int) (hw : bits w) (μ : Store) : G (k + 2) 30 [.d (machD rows gs), .d (wd w)] μ = some (.d (.bool (tk rows gs w)), μ) := by
  rw [c__law_takes]
  simp -implicitDefEqProofs [runD, m__law_takes, law_led_ok k h w hw]
  simp only [machD, idx_t, atI_one, Option.map_some, Option.bind_some, rd2_d, in_goods]
  simp [endD, tk]
end Mu

namespace Mu
open PySem
@[simp] theorem bdV_0 (x : Option (List D)) (r : Store) : bdV (x :: r) (.p 0) = true := by simp [bdV]
@[simp] theorem endD_1 (a b : Option (List D)) (x : D) : endD [a] (.d x) [b] = some (.d x, [b]) := by simp [endD]
@[simp] theorem endD_2 (a b c : Option (List D)) (x : D) : endD [a] (.d x) [b, c] = some (.d x, [b]) := by simp [endD]
theorem draw' (k : Nat) (many : Int) {pl : List D} (h : GP [some pl]) (h1 : 0 < many) (h2 : many < 1073741824) : ∃ r pl', G (k + 2) 17 [.p 0, .d (.int many)] [some pl] = some (.d (.int r), [some pl']) ∧ GP [some pl'] ∧ 0 ≤ r ∧ r < many := by
  obtain ⟨r, μ', e, g, a, b⟩ := draw_ok k many _ h h1 h2
  obtain ⟨_, _, _, _, _, rfl, _⟩ := id g
  exact ⟨r, _, e, g, a, b⟩
theorem pick_ok (k : Nat) (xs : List D) {pl : List D} (h : GP [some pl]) (h1 : 0 < xs.length) (h2 : xs.length < 1000) : ∃ x pl', G (k + 3) 18 [.p 0, .d (.list xs)] [some pl] = some (.d x, [some pl']) ∧ GP [some pl'] ∧ x ∈ xs := by
  obtain ⟨r, pl', e, g, r0, r1⟩ := draw' k xs.length h (by omega) (by omega)
  have ha := atI_ok (xs := xs) r0 r1
  refine ⟨_, pl', ?_, g, List.getElem_mem (by omega : r.toNat < xs.length)⟩
  rw [c__law_pick]
  simp -implicitDefEqProofs [runD, m__law_pick, e, ha]
/-! ### words -/
structure Wds (b n : Nat) (ws : List (List Int)) : Prop where
  few : ws.length ≤ b
  ok : ∀ w ∈ ws, w.length ≤ n ∧ bits w
theorem words_in (k : Nat) (μ : Store) (j : Nat) (hj : j ≤ 5) (ws : List (List Int)) (hw : Wds (2 ^ j) j ws) (a c y : Option Val) :
    ∃ ws' y', evS C (G k) (.for_ (.nm 4) (.seq (.var 1)) [.set 3 (.bop .add (.var 3) (.lst (.cons (.bop .add (.var 4) (.tup (.cons (.int 0) .nil))) (.cons (.bop .add (.var 4) (.tup (.cons (.int 1) .nil))) .nil))))])
      [a, some (.d (.list (ws.map wd))), c, some (.d (.list [])), y] μ = some (.nx, [a, some (.d (.list (ws.map wd))), c, some (.d (.list (ws'.map wd))), y'], μ) ∧ Wds (2 ^ (j + 1)) (j + 1) ws' := by
  have big : 1000 ≤ sizeLine := by decide
  have p2 : 2 ^ j ≤ 32 := Nat.le_trans (Nat.pow_le_pow_right (by decide) hj) (by decide)
  obtain ⟨f, ρ', μ', e, rfl, rfl, ws', y', rfl, q⟩ := ev_for (C := C) (F := G k) (tg := .nm 4) (it := .seq (.var 1)) (b := [.set 3 (.bop .add (.var 3) (.lst (.cons (.bop .add (.var 4) (.tup (.cons (.int 0) .nil))) (.cons (.bop .add (.var 4) (.tup (.cons (.int 1) .nil))) .nil))))])
    (ρ := [a, some (.d (.list (ws.map wd))), c, some (.d (.list [])), y]) (μ := μ) (xs := ws.map wd) (w := .list (ws.map wd)) (μ1 := μ)
    (fun r ρ m => ∃ rs ws' y, r = rs.map wd ∧ (∀ w ∈ rs, w.length ≤ j ∧ bits w) ∧ Wds (2 * (2 ^ j - rs.length)) (j + 1) ws' ∧ rs.length ≤ 2 ^ j ∧ m = μ ∧ ρ = [a, some (.d (.list (ws.map wd))), c, some (.d (.list (ws'.map wd))), y])
    (fun f ρ m => f = .nx ∧ m = μ ∧ ∃ ws' y', ρ = [a, some (.d (.list (ws.map wd))), c, some (.d (.list (ws'.map wd))), y'] ∧ Wds (2 ^ (j + 1)) (j + 1) ws') (by simp) ⟨ws, [], y, rfl, hw.ok, ⟨by simp, fun _ h => by cases h⟩, hw.few, rfl, rfl⟩ (by
      rintro x r ρ m ⟨rs, ws', y, hr, hb, h5, hlen, rfl, rfl⟩
      cases rs with
      | nil => cases hr
      | cons w rs =>
        cases hr
        obtain ⟨hb1, hb2⟩ := hb w List.mem_cons_self
        have hf := h5.few
        simp only [List.length_cons] at hf hlen
        refine ⟨_, rfl, .nx, [a, some (.d (.list (ws.map wd))), c, some (.d (.list ((ws' ++ [w ++ [0], w ++ [1]]).map wd))), some (.d (wd w))], m, ?_, rs, ws' ++ [w ++ [0], w ++ [1]], some (.d (wd w)), rfl, fun z hz => hb z (List.mem_cons_of_mem _ hz), ⟨by simp only [List.length_append, List.length_cons, List.length_nil]; omega, fun v hv => ?_⟩, by omega, rfl, rfl⟩
        · have e1 := bop_tup (w.map .int) [.int 0] (by simp only [List.length_map, List.length_cons, List.length_nil]; omega)
          have e2 := bop_tup (w.map .int) [.int 1] (by simp only [List.length_map, List.length_cons, List.length_nil]; omega)
          have e3 := bop_lst (ws'.map wd) [.tuple (w.map .int ++ [.int 0]), .tuple (w.map .int ++ [.int 1])] (by simp only [List.length_map, List.length_cons, List.length_nil]; omega)
          simp -implicitDefEqProofs [wd, e1, e2]
          simp -implicitDefEqProofs [e3]
        · rcases List.mem_append.mp hv with hv | hv
          · exact h5.ok v hv
          · simp only [List.mem_cons, List.not_mem_nil, or_false] at hv
            have key : ∀ i : Int, (i = 0 ∨ i = 1) → (w ++ [i]).length ≤ j + 1 ∧ bits (w ++ [i]) := fun i hi => ⟨by simp only [List.length_append, List.length_cons, List.length_nil]; omega, fun l hl => by
              rcases List.mem_append.mp hl with hl | hl
              · exact hb2 l hl
              · rw [List.mem_singleton.mp hl]; exact hi⟩
            rcases hv with rfl | rfl
            · exact key 0 (.inl rfl)
            · exact key 1 (.inr rfl))
    (by
      rintro ρ m ⟨rs, ws', y, hr, hb, h5, hlen, rfl, rfl⟩
      cases rs with
      | cons w rs => cases hr
      | nil =>
        refine ⟨rfl, rfl, ws', y, rfl, ?_, h5.ok⟩
        have := h5.few
        rw [Nat.pow_succ]
        simp only [List.length_nil] at this
        omega)
  exact ⟨ws', y', e, q⟩
theorem words_ok (k n : Nat) (hn : n ≤ 5) (μ : Store) : ∃ ws, G (k + 1) 27 [.d (.int n)] μ = some (.d (.list (ws.map wd)), μ) ∧ Wds 32 5 ws := by
  rw [c__law_words]
  have big : 1000 ≤ sizeLine := by decide
  obtain ⟨f, ρ', μ', e, rfl, rfl, ws', c, d, y, rfl, q⟩ := ev_for (C := C) (F := G k) (tg := .nm 2) (it := .rng (.var 0)) (b := [.set 3 (.lst .nil), .for_ (.nm 4) (.seq (.var 1)) [.set 3 (.bop .add (.var 3) (.lst (.cons (.bop .add (.var 4) (.tup (.cons (.int 0) .nil))) (.cons (.bop .add (.var 4) (.tup (.cons (.int 1) .nil))) .nil))))], .set 1 (.var 3)])
    (ρ := [some (.d (.int n)), some (.d (.list ([[]].map wd))), none, none, none]) (μ := μ) (xs := rngD 0 n) (w := .none) (μ1 := μ)
    (fun r ρ m => ∃ j ws c d y, j + r.length = n ∧ Wds (2 ^ j) j ws ∧ m = μ ∧ ρ = [some (.d (.int n)), some (.d (.list (ws.map wd))), c, d, y])
    (fun f ρ m => f = .nx ∧ m = μ ∧ ∃ ws c d y, ρ = [some (.d (.int n)), some (.d (.list (ws.map wd))), c, d, y] ∧ Wds 32 5 ws) (rng_ok (by simp) (rngOk_small (by omega) (by omega) (by omega) (by omega))) ⟨0, [[]], none, none, none, by simp [rngD_len], ⟨by simp, fun w hw => by simp at hw; subst hw; exact ⟨by simp, fun _ h => by cases h⟩⟩, rfl, rfl⟩ (by
      rintro x r ρ m ⟨j, ws, c, d, y, hl, hw, rfl, rfl⟩
      simp only [List.length_cons] at hl
      obtain ⟨ws', y', e, q⟩ := words_in k m j (by omega) ws hw (some (.d (.int n))) (some (.d x)) y
      refine ⟨_, rfl, .nx, [some (.d (.int n)), some (.d (.list (ws'.map wd))), some (.d x), some (.d (.list (ws'.map wd))), y'], m, ?_, j + 1, ws', _, _, _, by omega, q, rfl, rfl⟩
      simp -implicitDefEqProofs only [evSs_cons, evS_set, evE_lst, evEs_nil, Option.bind_some, bdV_dd, if_true, nxt_nx, List.set, e]
      simp -implicitDefEqProofs)
    (by
      rintro ρ m ⟨j, ws, c, d, y, hl, hw, rfl, rfl⟩
      simp only [List.length_nil, Nat.add_zero] at hl
      subst hl
      refine ⟨rfl, rfl, ws, c, d, y, rfl, Nat.le_trans hw.few (Nat.le_trans (Nat.pow_le_pow_right (by decide) hn) (by decide)), fun w hw' => ⟨Nat.le_trans (hw.ok w hw').1 hn, (hw.ok w hw').2⟩⟩)
  refine ⟨ws', ?_, q⟩
  simp only [List.map_cons, List.map_nil, wd] at e
  simp -implicitDefEqProofs only [runD, m__law_words, evSs_cons, evS_set, evE_lst, evEs_cons, evEs_nil, evE_tup, Option.bind_some, toF_d, bdV_dd, if_true, nxt_nx, List.set, List.map_cons, List.map_nil, List.length_cons, List.length_nil, List.all_cons, List.all_nil, Bool.and_true, Nat.reduceAdd, Nat.reduceSub, List.replicate, List.cons_append, List.nil_append, and_self, e]
  simp -implicitDefEqProofs [endD]
end Mu

namespace Mu
open PySem
def Bw (ws : List (List Int)) : Prop := ∀ w ∈ ws, bits w
theorem all_words_ok (k n : Nat) (hn : n ≤ 5) (μ : Store) : ∃ ws, G (k + 2) 28 [.d (.int n)] μ = some (.d (.list (ws.map wd)), μ) ∧ Bw ws := by
  rw [c__law_all_words]
  have big : 1000 ≤ sizeLine := by decide
  obtain ⟨f, ρ', μ', e, rfl, rfl, ws', c, rfl, q⟩ := ev_for (C := C) (F := G (k + 1)) (tg := .nm 2) (it := .rng (.bop .add (.var 0) (.int 1))) (b := [.set 1 (.bop .add (.var 1) (.call 27 (.cons (.var 2) .nil)))])
    (ρ := [some (.d (.int n)), some (.d (.list [])), none]) (μ := μ) (xs := rngD 0 ((n : Int) + 1)) (w := .none) (μ1 := μ)
    (fun r ρ m => (∀ x ∈ r, ∃ j : Nat, x = .int j ∧ j ≤ 5) ∧ ∃ ws c, ws.length + 32 * r.length ≤ 200 ∧ Bw ws ∧ m = μ ∧ ρ = [some (.d (.int n)), some (.d (.list (ws.map wd))), c])
    (fun f ρ m => f = .nx ∧ m = μ ∧ ∃ ws c, ρ = [some (.d (.int n)), some (.d (.list (ws.map wd))), c] ∧ Bw ws) (rng_ok (by simp) (rngOk_small (by omega) (by omega) (by omega) (by omega))) ⟨fun x hx => by
      obtain ⟨i, rfl, h0, h1⟩ := rngD_mem hx
      exact ⟨i.toNat, by congr 1; omega, by omega⟩, [], none, by rw [rngD_len]; simp only [List.length_nil]; omega, fun _ h => (by cases h), rfl, rfl⟩ (by
      rintro x r ρ m ⟨hr, ws, c, hl, hw, rfl, rfl⟩
      obtain ⟨j, rfl, hj⟩ := hr x List.mem_cons_self
      obtain ⟨vs, ev, hv⟩ := words_ok k j hj m
      have hf := hv.few
      simp only [List.length_cons] at hl
      have e3 := bop_lst (ws.map wd) (vs.map wd) (by simp only [List.length_map]; omega)
      refine ⟨_, rfl, .nx, [some (.d (.int n)), some (.d (.list ((ws ++ vs).map wd))), some (.d (.int j))], m, ?_, fun y hy => hr y (List.mem_cons_of_mem _ hy), ws ++ vs, _, by simp only [List.length_append]; omega, fun w hm => ?_, rfl, rfl⟩
      · simp -implicitDefEqProofs [ev, e3]
      · rcases List.mem_append.mp hm with hm | hm
        · exact hw w hm
        · exact (hv.ok w hm).2)
    (by
      rintro ρ m ⟨hr, ws, c, hl, hw, rfl, rfl⟩
      exact ⟨rfl, rfl, ws, c, rfl, hw⟩)
  refine ⟨ws', ?_, q⟩
  simp -implicitDefEqProofs [runD, m__law_all_words]
  rw [e]
  simp [endD]
/-! ### drawn machines -/
theorem upI_mono {gs : List Int} (h : gs.Pairwise (· < ·)) : upI gs = true := by
  unfold upI
  rw [List.all_eq_true]
  intro k hk
  have hk := List.mem_range.mp hk
  have h1 : k < gs.length := by omega
  have h2 : k + 1 < gs.length := by omega
  have := List.pairwise_iff_getElem.mp h k (k + 1) h1 h2 (by omega)
  simp [nth, h1, h2, this]
theorem some_of_ok (k : Nat) (n : Nat) (hn : n ≤ 5) {pl : List D} (h : GP [some pl]) : ∃ (gs : List Int) (pl' : List D), G (k + 3) 31 [.p 0, .d (.int n)] [some pl] = some (.d (.tuple (gs.map .int)), [some pl']) ∧ GP [some pl'] ∧ gs.Pairwise (· < ·) ∧ (∀ g ∈ gs, 0 ≤ g ∧ g < n) ∧ gs.length ≤ 5 := by
  rw [c__law_some_of]
  have big : 1000 ≤ sizeLine := by decide
  obtain ⟨ys, μ', e, g, fm⟩ := ev_compI (C := C) (F := G (k + 2)) (ρ := [some (.p 0), some (.d (.int n)), none]) (μ := [some pl]) (own := [2]) (tg := .nm 2) (it := .rng (.var 1)) (cs := .cons (.cmp .eq (.call 17 (.cons (.var 0) (.cons (.int 2) .nil))) (.int 0)) .nil) (elt := .var 2) (xs := rngD 0 n) (w := .none) (μ1 := [some pl])
    GP (fun x zs => zs = [] ∨ zs = [x]) (rng_ok (by simp) (rngOk_small (by omega) (by omega) (by omega) (by omega))) h (by
      rintro x hx m hm
      obtain ⟨_, _, _, _, _, rfl, _⟩ := id hm
      obtain ⟨r, pl', e, g, r0, r1⟩ := draw' k 2 hm (by decide) (by decide)
      refine ⟨_, rfl, decide (r = 0), [some pl'], ?_, ?_⟩
      · simp -implicitDefEqProofs [wipeR, e]
      · by_cases hr : r = 0
        · exact .inl ⟨by simp [hr], x, [some pl'], by simp [wipeR], g, .inr rfl⟩
        · exact .inr ⟨by simp [hr], g, .inl rfl⟩)
  have key : ∀ {xs ys : List D}, FM (fun x zs => zs = [] ∨ zs = [x]) xs ys → List.Sublist ys xs := by
    intro xs ys h
    induction h with
    | nil => exact .slnil
    | cons h t ih =>
      rcases h with rfl | rfl
      · exact ih.cons _
      · exact ih.cons₂ _
  have sub := key fm
  rw [rngD_nat] at sub
  have sub' : List.Sublist ys (((List.range n).map fun (k : Nat) => (k : Int)).map PyData.int) := by rw [List.map_map]; exact sub
  obtain ⟨gs, hs, rfl⟩ := List.sublist_map_iff.mp sub'
  obtain ⟨_, _, _, _, _, rfl, _⟩ := id g
  refine ⟨gs, _, ?_, g, ?_, ?_, ?_⟩
  · simp -implicitDefEqProofs [runD, m__law_some_of]
    rw [e]
    simp
  · refine List.Pairwise.sublist hs ?_
    rw [List.pairwise_map]
    exact List.pairwise_lt_range.imp fun h => by omega
  · intro g hg
    obtain ⟨i, hi, rfl⟩ := List.mem_map.mp (hs.subset hg)
    have := List.mem_range.mp hi
    omega
  · have := hs.length_le
    simp at this
    omega
theorem machine_ok (k : Nat) (most : Int) (h1 : 0 < most) (h2 : most ≤ 5) {pl : List D} (h : GP [some pl]) : ∃ rows gs pl', G (k + 4) 32 [.p 0, .d (.int most)] [some pl] = some (.d (machD rows gs), [some pl']) ∧ GP [some pl'] ∧ MG rows gs := by
  rw [c__law_machine]
  have big : 1000 ≤ sizeLine := by decide
  obtain ⟨r, pl1, e1, g1, r0, r1⟩ := draw' (k + 1) most h h1 (by omega)
  have hn : (1 + r) = ((1 + r.toNat : Nat) : Int) := by omega
  have hn5 : 1 + r.toNat ≤ 5 := by omega
  generalize 1 + r.toNat = n at hn hn5
  obtain ⟨ys, μ', e2, g2, fm⟩ := ev_compI (C := C) (F := G (k + 3)) (ρ := [some (.p 0), some (.d (.int most)), some (.d (.int n)), none]) (μ := [some pl1]) (own := [3]) (tg := .nm 3) (it := .rng (.var 2)) (cs := .nil) (elt := .tup (.cons (.call 17 (.cons (.var 0) (.cons (.var 2) .nil))) (.cons (.call 17 (.cons (.var 0) (.cons (.var 2) .nil))) .nil)))
    (xs := rngD 0 n) (w := .none) (μ1 := [some pl1]) GP (fun x zs => ∃ p : Int × Int, zs = [rowD p] ∧ 0 ≤ p.1 ∧ p.1 < n ∧ 0 ≤ p.2 ∧ p.2 < n) (rng_ok (by simp) (rngOk_small (by omega) (by omega) (by omega) (by omega))) g1 (by
      rintro x hx m hm
      obtain ⟨_, _, _, _, _, rfl, _⟩ := id hm
      have hpos : (0 : Int) < n := by omega
      obtain ⟨a, p1, ea, ga, a0, a1⟩ := draw' (k + 1) n hm hpos (by omega)
      obtain ⟨b, p2, eb, gb, b0, b1⟩ := draw' (k + 1) n ga hpos (by omega)
      refine ⟨_, rfl, true, _, by simp; rfl, .inl ⟨rfl, rowD (a, b), [some p2], ?_, gb, (a, b), rfl, a0, a1, b0, b1⟩⟩
      simp -implicitDefEqProofs [wipeR, ea, eb, rowD])
  obtain ⟨_, _, _, _, _, rfl, _⟩ := id g2
  obtain ⟨gs, pl3, e3, g3, up, hg, hl⟩ := some_of_ok k n hn5 g2
  have key : ∀ {xs ys : List D}, FM (fun x zs => ∃ p : Int × Int, zs = [rowD p] ∧ 0 ≤ p.1 ∧ p.1 < n ∧ 0 ≤ p.2 ∧ p.2 < n) xs ys → ∃ rows : List (Int × Int), ys = rows.map rowD ∧ rows.length = xs.length ∧ ∀ p ∈ rows, 0 ≤ p.1 ∧ p.1 < n ∧ 0 ≤ p.2 ∧ p.2 < n := by
    intro xs ys h
    induction h with
    | nil => exact ⟨[], rfl, rfl, fun _ h => by cases h⟩
    | cons h t ih =>
      obtain ⟨p, rfl, hp⟩ := h
      obtain ⟨rows, rfl, hl, hr⟩ := ih
      refine ⟨p :: rows, rfl, by simp [hl], fun q hq => ?_⟩
      rcases List.mem_cons.mp hq with rfl | hq
      · exact hp
      · exact hr q hq
  obtain ⟨rows, rfl, hlen, hrow⟩ := key fm
  rw [rngD_len] at hlen
  have hlen : rows.length = n := by omega
  refine ⟨rows, gs, pl3, ?_, g3, ⟨by omega, by omega, by rw [hlen]; exact hrow, by rw [hlen]; exact hg, upI_mono up, hl⟩⟩
  simp -implicitDefEqProofs [runD, m__law_machine, e1, hn]
  simp -implicitDefEqProofs only [e2, Option.bind_some, rd1_d, bi_tup_l, Option.map_some, toF_d]
  simp -implicitDefEqProofs [e3, machD]
end Mu

namespace Mu
open PySem
/-! ### what is bent -/
def Wl : Nat → D → Prop
  | 0, _ => True
  | n + 1, v => ∀ xs, v = .tuple xs → xs.length ≤ 1000 ∧ ∀ x ∈ xs, Wl n x
def Wa (v : D) : Prop := ∀ n, Wl n v
theorem Wa.tup {xs : List D} (h : xs.length ≤ 1000) (t : ∀ x ∈ xs, Wa x) : Wa (.tuple xs)
  | 0 => trivial
  | n + 1 => fun ys e => by
    cases e
    exact ⟨h, fun x hx => t x hx n⟩
theorem Wa.no {v : D} (h : ∀ xs, v = .tuple xs → False) : Wa v
  | 0 => trivial
  | n + 1 => fun ys e => (h ys e).elim
theorem Wa.int (i : Int) : Wa (.int i) := .no fun _ e => by cases e
theorem Wa.str (i : Str) : Wa (.str i) := .no fun _ e => by cases e
theorem Wa.bool (i : Bool) : Wa (.bool i) := .no fun _ e => by cases e
theorem Wa.lst (i : List D) : Wa (.list i) := .no fun _ e => by cases e
theorem Wa.dct (i : List (D × D)) : Wa (.dict i) := .no fun _ e => by cases e
theorem Wa.non : Wa .none := .no fun _ e => by cases e
theorem Wa.nil : Wa (.tuple []) := .tup (by decide) fun _ h => by cases h
theorem Wa.ints {ns : List Int} (h : ns.length ≤ 1000) : Wa (.tuple (ns.map .int)) := .tup (by rw [List.length_map]; exact h) fun x hx => by
  obtain ⟨i, _, rfl⟩ := List.mem_map.mp hx
  exact .int i
/-- ints, and short tuples of them, so deep -/
inductive Tp : Nat → D → Prop where
  | int (n : Nat) (i : Int) : Tp n (.int i)
  | tup {n : Nat} {xs : List D} (z : xs.length ≤ 10) (h : ∀ x ∈ xs, Tp n x) : Tp (n + 1) (.tuple xs)
theorem Tp.wa {n : Nat} {v : D} (h : Tp n v) : Wa v := by
  induction h with
  | int n i => exact .int i
  | tup z h ih => exact .tup (by omega) ih
theorem tp_ints {n : Nat} {ns : List Int} (h : ns.length ≤ 10) : Tp (n + 1) (.tuple (ns.map .int)) := .tup (by rw [List.length_map]; exact h) fun x hx => by
  obtain ⟨i, _, rfl⟩ := List.mem_map.mp hx
  exact .int _ i
theorem tp_mach {rows : List (Int × Int)} {gs : List Int} (h : MG rows gs) : Tp 3 (machD rows gs) := by
  refine .tup (by simp) fun x hx => ?_
  simp only [List.mem_cons, List.not_mem_nil, or_false] at hx
  rcases hx with rfl | rfl
  · refine .tup (by rw [List.length_map]; have := h.few; omega) fun x hx => ?_
    obtain ⟨p, _, rfl⟩ := List.mem_map.mp hx
    exact tp_ints (ns := [p.1, p.2]) (by simp)
  · exact tp_ints (by have := h.gfew; omega)
theorem splice {n : Nat} {xs : List D} {i : Int} (h0 : 0 ≤ i) (z : xs.length ≤ 10) (hx : ∀ x ∈ xs, Wa x) {ys : List D} (hy : ys.length ≤ 1) (hw : ∀ y ∈ ys, Wa y) (j : Int) (hj : 0 ≤ j) :
    (rd2 [] (.d (.tuple (cutD xs none (some i)))) (.d (.tuple ys)) (bopD .add)) = some (.d (.tuple (cutD xs none (some i) ++ ys)), []) ∧ bopD .add (.tuple (cutD xs none (some i))) (.tuple ys) = some (.tuple (cutD xs none (some i) ++ ys)) ∧
    bopD .add (.tuple (cutD xs none (some i) ++ ys)) (.tuple (cutD xs (some j) none)) = some (.tuple (cutD xs none (some i) ++ ys ++ cutD xs (some j) none)) ∧ Wa (.tuple (cutD xs none (some i) ++ ys ++ cutD xs (some j) none)) := by
  have big : 1000 ≤ sizeLine := by decide
  have l1 := cutD_le xs none (some i)
  have l2 := cutD_le xs (some j) none
  have e1 := bop_tup (cutD xs none (some i)) ys (by omega)
  refine ⟨by simp [e1], e1, bop_tup _ _ (by rw [List.length_append]; omega), .tup (by rw [List.length_append, List.length_append]; omega) fun x h => ?_⟩
  rcases List.mem_append.mp h with h | h
  · rcases List.mem_append.mp h with h | h
    · exact hx x (cutD_mem h)
    · exact hw x h
  · exact hx x (cutD_mem h)
theorem join2 {xs : List D} (i j : Int) (z : xs.length ≤ 10) (hx : ∀ x ∈ xs, Wa x) : bopD .add (.tuple (cutD xs none (some i))) (.tuple (cutD xs (some j) none)) = some (.tuple (cutD xs none (some i) ++ cutD xs (some j) none)) ∧ Wa (.tuple (cutD xs none (some i) ++ cutD xs (some j) none)) := by
  have big : 1000 ≤ sizeLine := by decide
  have l1 := cutD_le xs none (some i)
  have l2 := cutD_le xs (some j) none
  refine ⟨bop_tup _ _ (by omega), .tup (by rw [List.length_append]; omega) fun x h => ?_⟩
  rcases List.mem_append.mp h with h | h
  · exact hx x (cutD_mem h)
  · exact hx x (cutD_mem h)
@[simp] theorem deref_p1 (a : Option (List D)) (xs : List D) (r : Store) : deref (a :: some xs :: r) (.p 1) = some (.list xs) := rfl
@[simp] theorem rd1_p1 (a : Option (List D)) (xs : List D) (r : Store) (f : D → Option D) : rd1 (a :: some xs :: r) (.p 1) f = (f (.list xs)).map fun z => (.d z, a :: some xs :: r) := rfl
theorem put_p1 (a : Option (List D)) (xs : List D) (i : Int) (y : D) (h0 : 0 ≤ i) (h1 : i < xs.length) : putV [a, some xs] (.p 1) i y = some [a, some (xs.set i.toNat y)] := by
  have e : L2.ixN xs.length i = some i.toNat := by
    unfold L2.ixN
    rw [if_pos h0, if_pos (by omega)]
  show (match ([a, some xs] : Store)[1]? with | some (some xs) => (L2.ixN xs.length i).map fun m => [a, some xs].set 1 (some (xs.set m y)) | _ => none) = _
  simp [e]
theorem set_wa {xs : List D} {i : Nat} {y : D} (hx : ∀ x ∈ xs, Wa x) (hy : Wa y) : ∀ x ∈ xs.set i y, Wa x := fun x h => by
  rcases List.mem_or_eq_of_mem_set h with h | rfl
  · exact hx x h
  · exact hy
/-- a choice of ten -/
theorem ten_ok {r : Int} (r0 : 0 ≤ r) (r1 : r < 10) : ∃ x, L2.atI [.str "x", .bool true, .tuple [], .int 0, .int (-1), .none, .bool false, .list [], .str "in", .int 1] r = some x ∧ Wa x := by
  refine ⟨_, atI_ok r0 (by simpa using r1), ?_⟩
  have hm := List.getElem_mem (l := [PyData.str "x", .bool true, .tuple [], .int 0, .int (-1), .none, .bool false, .list [], .str "in", .int 1]) (n := r.toNat) (by simp; omega)
  generalize ([PyData.str "x", .bool true, .tuple [], .int 0, .int (-1), .none, .bool false, .list [], .str "in", .int 1])[r.toNat]'(by simp; omega) = x at hm
  simp only [List.mem_cons, List.not_mem_nil, or_false] at hm
  rcases hm with rfl | rfl | rfl | rfl | rfl | rfl | rfl | rfl | rfl | rfl
  · exact .str _
  · exact .bool _
  · exact .nil
  · exact .int _
  · exact .int _
  · exact .non
  · exact .bool _
  · exact .lst _
  · exact .str _
  · exact .int _
theorem four_ok {r : Int} (r0 : 0 ≤ r) (r1 : r < 4) : ∃ i : Int, L2.atI [PyData.int 1, .int (-1), .int 2, .int 0] r = some (.int i) := by
  have h := at_ints (ns := [1, -1, 2, 0]) (k := r.toNat) (by simp; omega)
  rw [show ((r.toNat : Nat) : Int) = r by omega] at h
  exact ⟨_, h⟩
theorem bent_ok {n : Nat} {v : D} (hv : Tp n v) : ∀ (k : Nat) {pl : List D} (h : GP [some pl]), ∃ x pl', G (k + n + 3) 19 [.p 0, .d v] [some pl] = some (.d x, [some pl']) ∧ GP [some pl'] ∧ Wa x := by
  induction hv with
  | int n i =>
    intro k pl h
    rw [c__law_bent]
    obtain ⟨t, p1, e1, g1, t0, t1⟩ := draw' (k + n) 9 h (by decide) (by decide)
    by_cases ht : t = 0
    · obtain ⟨r, p2, e2, g2, r0, r1⟩ := draw' (k + n) 10 g1 (by decide) (by decide)
      obtain ⟨x, ex, wx⟩ := ten_ok r0 r1
      refine ⟨x, p2, ?_, g2, wx⟩
      simp -implicitDefEqProofs [runD, m__law_bent, isiD, e1, ht, e2, ex]
    · obtain ⟨r, p2, e2, g2, r0, r1⟩ := draw' (k + n) 4 g1 (by decide) (by decide)
      obtain ⟨j, ex⟩ := four_ok r0 r1
      refine ⟨.int (i + j), p2, ?_, g2, .int _⟩
      simp -implicitDefEqProofs [runD, m__law_bent, isiD, e1, ht, law_int_ok, isInt, e2, ex]
  | @tup n xs z hx ih =>
    intro k pl h
    rw [c__law_bent]
    have hw : ∀ x ∈ xs, Wa x := fun x h => (hx x h).wa
    have rest : ∀ (q : List D) (hq : GP [some q]), ∃ x pl', (evSs C (G (k + (n + 1) + 2)) (m__law_bent.body.drop 1) [some (.p 0), some (.d (.tuple xs)), none, none, none, none] [some q]).bind (fun x => match x.1 with | .nx => endD [some pl] (.d .none) x.2.2 | .ret v => endD [some pl] v x.2.2 | _ => none) = some (.d x, [some pl']) ∧ GP [some pl'] ∧ Wa x := by
      intro q hq
      obtain ⟨t, p1, e1, g1, t0, t1⟩ := draw' (k + (n + 1)) 9 hq (by decide) (by decide)
      by_cases ht : t = 0
      · obtain ⟨r, p2, e2, g2, r0, r1⟩ := draw' (k + (n + 1)) 10 g1 (by decide) (by decide)
        obtain ⟨x, ex, wx⟩ := ten_ok r0 r1
        refine ⟨x, p2, ?_, g2, wx⟩
        simp -implicitDefEqProofs [m__law_bent, isiD, e1, ht, e2, ex]
      · by_cases hl : xs.length = 0
        · obtain rfl := List.eq_nil_of_length_eq_zero hl
          by_cases h5 : t < 5
          · refine ⟨.tuple [.tuple [], .int 0], p1, ?_, g1, .tup (by simp) fun x hx => ?_⟩
            · simp -implicitDefEqProofs [m__law_bent, isiD, e1, ht, law_int_ok, isInt, h5]
            · simp only [List.mem_cons, List.not_mem_nil, or_false] at hx
              rcases hx with rfl | rfl
              · exact .nil
              · exact .int _
          · refine ⟨.tuple [], p1, ?_, g1, .nil⟩
            simp -implicitDefEqProofs [m__law_bent, isiD, e1, ht, law_int_ok, isInt, h5]
        · have hl' : ¬ ((xs.length : Int) = 0) := by omega
          have hne : xs ≠ [] := fun e => hl (by rw [e]; rfl)
          obtain ⟨a, p2, e2, g2, a0, a1⟩ := draw' (k + (n + 1)) xs.length g1 (by omega) (by omega)
          by_cases h3 : t < 3
          · obtain ⟨ea, wa⟩ := join2 a (a + 1) z hw
            refine ⟨_, p2, ?_, g2, wa⟩
            simp -implicitDefEqProofs [m__law_bent, isiD, e1, ht, law_int_ok, isInt, hl', hne, e2, h3, ea]
          · have hat := atI_ok (xs := xs) a0 a1
            have hwa := hw _ (List.getElem_mem (show a.toNat < xs.length by omega))
            by_cases h5 : t < 5
            · obtain ⟨_, ea, eb, wa⟩ := splice (n := 0) a0 z hw (ys := [xs[a.toNat]'(by omega)]) (by simp) (by simpa using hwa) a a0
              refine ⟨_, p2, ?_, g2, wa⟩
              simp -implicitDefEqProofs [m__law_bent, isiD, e1, ht, law_int_ok, isInt, hl', hne, e2, h3, h5, hat, ea, eb]
            · by_cases h6 : t = 5
              · refine ⟨.list xs, p2, ?_, g2, .lst _⟩
                simp -implicitDefEqProofs [m__law_bent, isiD, e1, ht, law_int_ok, isInt, hl', hne, e2, h3, h5, h6]
              · obtain ⟨b, p3, e3, g3, b0, b1⟩ := draw' (k + (n + 1)) xs.length g2 (by omega) (by omega)
                have hbt := atI_ok (xs := xs) b0 b1
                have hwb := hw _ (List.getElem_mem (show b.toNat < xs.length by omega))
                have q1 := put_p1 (some p3) xs a (xs[b.toNat]'(by omega)) a0 a1
                have q2 := put_p1 (some p3) (xs.set a.toNat (xs[b.toNat]'(by omega))) b (xs[a.toNat]'(by omega)) b0 (by rw [List.length_set]; exact b1)
                refine ⟨.tuple ((xs.set a.toNat (xs[b.toNat]'(by omega))).set b.toNat (xs[a.toNat]'(by omega))), p3, ?_, g3, .tup (by rw [List.length_set, List.length_set]; omega) (set_wa (set_wa hw hwb) hwa)⟩
                simp -implicitDefEqProofs [m__law_bent, isiD, e1, ht, law_int_ok, isInt, hl', hne, e2, h3, h5, h6, e3, hat, hbt, q1, q2]
    have cut : m__law_bent.body = m__law_bent.body.headD .pass :: m__law_bent.body.drop 1 := rfl
    by_cases hl : xs.length = 0
    · obtain ⟨x, pl', e, g, w⟩ := rest pl h
      refine ⟨x, pl', ?_, g, w⟩
      unfold runD
      rw [cut]
      simp only [evSs_cons (r := m__law_bent.body.drop 1)]
      rw [if_pos ⟨rfl, by simp⟩]
      obtain rfl := List.eq_nil_of_length_eq_zero hl
      have e0 : evS C (G (k + (n + 1) + 2)) (m__law_bent.body.headD .pass) (List.map some [Val.p 0, .d (.tuple [])] ++ List.replicate (m__law_bent.n - m__law_bent.ps) none) [some pl] = some (.nx, [some (.p 0), some (.d (.tuple [])), none, none, none, none], [some pl]) := by
        simp -implicitDefEqProofs [m__law_bent, isiD]
      rw [e0, Option.bind_some, nxt_nx, ← e]
      all_goals congr 1
    · obtain ⟨d, p1, e1, g1, d0, d1⟩ := draw' (k + (n + 1)) 4 h (by decide) (by decide)
      have hl' : (0 : Int) < xs.length := by omega
      have hl2 : 0 < xs.length := by omega
      have hne : xs ≠ [] := fun e => hl (by rw [e]; rfl)
      by_cases hd : 0 < d
      · obtain ⟨a, p2, e2, g2, a0, a1⟩ := draw' (k + (n + 1)) xs.length g1 (by omega) (by omega)
        have hat := atI_ok (xs := xs) a0 a1
        obtain ⟨y, p3, e3, g3, wy⟩ := ih _ (List.getElem_mem (show a.toNat < xs.length by omega)) k g2
        obtain ⟨_, ea, eb, wa⟩ := splice (n := 0) a0 z hw (ys := [y]) (by simp) (by simpa using wy) (a + 1) (by omega)
        refine ⟨_, p3, ?_, g3, wa⟩
        have e3' : G (k + (n + 1) + 2) 19 [.p 0, .d (xs[a.toNat]'(by omega))] [some p2] = some (.d y, [some p3]) := e3
        simp -implicitDefEqProofs [runD, m__law_bent, isiD, hl2, hl', hne, e1, hd, e2, hat, e3', ea, eb]
      · obtain ⟨x, pl', e, g, w⟩ := rest p1 g1
        refine ⟨x, pl', ?_, g, w⟩
        unfold runD
        rw [cut]
        simp only [evSs_cons (r := m__law_bent.body.drop 1)]
        rw [if_pos ⟨rfl, by simp⟩]
        have e0 : evS C (G (k + (n + 1) + 2)) (m__law_bent.body.headD .pass) (List.map some [Val.p 0, .d (.tuple xs)] ++ List.replicate (m__law_bent.n - m__law_bent.ps) none) [some pl] = some (.nx, [some (.p 0), some (.d (.tuple xs)), none, none, none, none], [some p1]) := by
          simp -implicitDefEqProofs [m__law_bent, isiD, hl2, hl', hne, e1, hd]
        rw [e0, Option.bind_some, nxt_nx, ← e]
        all_goals congr 1
end Mu

namespace Mu
open PySem
theorem fm_one {R : D → Prop} : ∀ {xs ys : List D}, FM (fun _ zs => ∃ y, zs = [y] ∧ R y) xs ys → ys.length = xs.length ∧ ∀ y ∈ ys, R y := by
  intro xs ys h
  induction h with
  | nil => exact ⟨rfl, fun _ h => by cases h⟩
  | cons h t ih =>
    obtain ⟨y, rfl, hy⟩ := h
    refine ⟨by simp [ih.1], fun z hz => ?_⟩
    rcases List.mem_cons.mp hz with rfl | hz
    · exact hy
    · exact ih.2 z hz
theorem booled_ok {n : Nat} {v : D} (hv : Tp n v) : ∀ (k : Nat) (μ : Store), ∃ x, G (k + n + 2) 20 [.d v] μ = some (.d x, μ) ∧ Wa x := by
  induction hv with
  | int n i =>
    intro k μ
    rw [c__law_booled]
    have e := in_goods i [0, 1]
    simp only [List.map_cons, List.map_nil] at e
    cases hb : ([PyData.int 0, PyData.int 1].any fun y => PyData.eqv y (.int i)) with
    | false =>
      rw [hb] at e
      refine ⟨.int i, ?_, .int _⟩
      simp -implicitDefEqProofs [runD, m__law_booled, isiD, law_int_ok, isInt, e, endD]
    | true =>
      rw [hb] at e
      refine ⟨.bool (decide (i = 1)), ?_, .bool _⟩
      simp -implicitDefEqProofs [runD, m__law_booled, isiD, law_int_ok, isInt, e, endD]
  | @tup n xs z hx ih =>
    intro k μ
    rw [c__law_booled]
    obtain ⟨ys, μ', e, rfl, fm⟩ := ev_compI (C := C) (F := G (k + (n + 1) + 1)) (ρ := [some (.d (.tuple xs)), none]) (μ := μ) (own := [1]) (tg := .nm 1) (it := .seq (.var 0)) (cs := .nil) (elt := .call 20 (.cons (.var 1) .nil)) (xs := xs) (w := .tuple xs) (μ1 := μ)
      (fun m => m = μ) (fun _ zs => ∃ y, zs = [y] ∧ Wa y) (by simp) rfl (by
        rintro x hm m rfl
        obtain ⟨y, ey, wy⟩ := ih x hm k m
        have ey' : G (k + (n + 1) + 1) 20 [.d x] m = some (.d y, m) := ey
        refine ⟨_, rfl, true, m, by simp, .inl ⟨rfl, y, m, ?_, rfl, y, rfl, wy⟩⟩
        simp -implicitDefEqProofs [wipeR, ey'])
    obtain ⟨hl, hw⟩ := fm_one fm
    refine ⟨.tuple ys, ?_, .tup (by omega) hw⟩
    simp -implicitDefEqProofs [runD, m__law_booled, isiD]
    rw [e]
    simp [endD]
theorem listed_ok : ∀ (d : Nat) {n : Nat} {v : D} (hv : Tp n v) (m : Int) (hm : m = d) (k : Nat) (μ : Store), ∃ x, G (k + d + 1) 21 [.d v, .d (.int m)] μ = some (.d x, μ) ∧ Wa x
  | d, _, _, .int _ i, m, hm, k, μ => by
    rw [c__law_listed]
    exact ⟨.int i, by simp -implicitDefEqProofs [runD, m__law_listed, isiD, endD], .int _⟩
  | 0, _, _, .tup (xs := xs) z hx, m, hm, k, μ => by
    rw [c__law_listed]
    have h0 : m = 0 := by omega
    exact ⟨.list xs, by simp -implicitDefEqProofs [runD, m__law_listed, isiD, endD, h0], .lst _⟩
  | d + 1, _, _, .tup (xs := xs) z hx, m, hm, k, μ => by
    rw [c__law_listed]
    have h0 : ¬ (m = 0) := by omega
    obtain ⟨ys, μ', e, rfl, fm⟩ := ev_compI (C := C) (F := G (k + (d + 1))) (ρ := [some (.d (.tuple xs)), some (.d (.int m)), none]) (μ := μ) (own := [2]) (tg := .nm 2) (it := .seq (.var 0)) (cs := .nil) (elt := .call 21 (.cons (.var 2) (.cons (.bop .sub (.var 1) (.int 1)) .nil))) (xs := xs) (w := .tuple xs) (μ1 := μ)
      (fun m => m = μ) (fun _ zs => ∃ y, zs = [y] ∧ Wa y) (by simp) rfl (by
        rintro x hx' q rfl
        obtain ⟨y, ey, wy⟩ := listed_ok d (hx x hx') (m - 1) (by omega) k q
        have ey' : G (k + (d + 1)) 21 [.d x, .d (.int (m - 1))] q = some (.d y, q) := ey
        refine ⟨_, rfl, true, q, by simp, .inl ⟨rfl, y, q, ?_, rfl, y, rfl, wy⟩⟩
        simp -implicitDefEqProofs [wipeR, ey'])
    obtain ⟨hl, hw⟩ := fm_one fm
    refine ⟨.tuple ys, ?_, .tup (by omega) hw⟩
    simp -implicitDefEqProofs [runD, m__law_listed, isiD, h0]
    rw [e]
    simp [endD]
@[simp] theorem rd2_p1 (a : Option (List D)) (xs : List D) (r : Store) (y : D) (f : D → D → Option D) : rd2 (a :: some xs :: r) (.p 1) (.d y) f = (f (.list xs) y).map fun z => (.d z, a :: some xs :: r) := rfl
theorem swapped_ok {n : Nat} {v : D} (hv : Tp n v) : ∀ (k : Nat) {pl : List D} (h : GP [some pl]), ∃ x pl', G (k + n + 3) 33 [.p 0, .d v] [some pl] = some (.d x, [some pl']) ∧ GP [some pl'] ∧ Wa x := by
  induction hv with
  | int n i =>
    intro k pl h
    rw [c__law_swapped]
    refine ⟨.int i, pl, ?_, h, .int _⟩
    simp -implicitDefEqProofs [runD, m__law_swapped, isiD]
  | @tup n xs z hx ih =>
    intro k pl h
    rw [c__law_swapped]
    have hw : ∀ x ∈ xs, Wa x := fun x h => (hx x h).wa
    by_cases hl : xs.length = 0
    · obtain rfl := List.eq_nil_of_length_eq_zero hl
      refine ⟨.tuple [], pl, ?_, h, .nil⟩
      simp -implicitDefEqProofs [runD, m__law_swapped, isiD]
    · have hl' : ¬ ((xs.length : Int) = 0) := by omega
      have hne : xs ≠ [] := fun e => hl (by rw [e]; rfl)
      obtain ⟨a, p1, e1, g1, a0, a1⟩ := draw' (k + (n + 1)) xs.length h (by omega) (by omega)
      have hat := atI_ok (xs := xs) a0 a1
      have hwa := hw _ (List.getElem_mem (show a.toNat < xs.length by omega))
      have rest : ∀ (q : List D) (hq : GP [some q]), ∃ x pl', (evSs C (G (k + (n + 1) + 2)) (m__law_swapped.body.drop 3) [some (.p 0), some (.d (.tuple xs)), some (.d (.int a)), none, none] [some q]).bind (fun x => match x.1 with | .nx => endD [some pl] (.d .none) x.2.2 | .ret v => endD [some pl] v x.2.2 | _ => none) = some (.d x, [some pl']) ∧ GP [some pl'] ∧ Wa x := by
        intro q hq
        obtain ⟨b, p3, e3, g3, b0, b1⟩ := draw' (k + (n + 1)) xs.length hq (by omega) (by omega)
        have hbt := atI_ok (xs := xs) b0 b1
        have hwb := hw _ (List.getElem_mem (show b.toNat < xs.length by omega))
        have q1 := put_p1 (some p3) xs a (xs[b.toNat]'(by omega)) a0 a1
        have q2 := put_p1 (some p3) (xs.set a.toNat (xs[b.toNat]'(by omega))) b (xs[a.toNat]'(by omega)) b0 (by rw [List.length_set]; exact b1)
        refine ⟨.tuple ((xs.set a.toNat (xs[b.toNat]'(by omega))).set b.toNat (xs[a.toNat]'(by omega))), p3, ?_, g3, .tup (by rw [List.length_set, List.length_set]; omega) (set_wa (set_wa hw hwb) hwa)⟩
        simp -implicitDefEqProofs [m__law_swapped, e3, hat, hbt, q1, q2, rd2_p1]
      have cut : m__law_swapped.body = m__law_swapped.body.headD .pass :: (m__law_swapped.body.drop 1).headD .pass :: (m__law_swapped.body.drop 2).headD .pass :: m__law_swapped.body.drop 3 := rfl
      have go : ∀ (q : List D) (hq : GP [some q]), evS C (G (k + (n + 1) + 2)) ((m__law_swapped.body.drop 2).headD .pass) [some (.p 0), some (.d (.tuple xs)), some (.d (.int a)), none, none] [some p1] = some (.nx, [some (.p 0), some (.d (.tuple xs)), some (.d (.int a)), none, none], [some q]) →
          ∃ x pl', runD C (G (k + (n + 1) + 2)) m__law_swapped [.p 0, .d (.tuple xs)] [some pl] = some (.d x, [some pl']) ∧ GP [some pl'] ∧ Wa x := by
        intro q hq e0
        obtain ⟨x, pl', e, g, w⟩ := rest q hq
        refine ⟨x, pl', ?_, g, w⟩
        unfold runD
        rw [cut]
        rw [if_pos ⟨rfl, by simp⟩]
        have f0 : evS C (G (k + (n + 1) + 2)) (m__law_swapped.body.headD .pass) (List.map some [Val.p 0, .d (.tuple xs)] ++ List.replicate (m__law_swapped.n - m__law_swapped.ps) none) [some pl] = some (.nx, [some (.p 0), some (.d (.tuple xs)), none, none, none], [some pl]) := by
          simp -implicitDefEqProofs [m__law_swapped, isiD, hl', hne]
        have f1 : evS C (G (k + (n + 1) + 2)) ((m__law_swapped.body.drop 1).headD .pass) [some (.p 0), some (.d (.tuple xs)), none, none, none] [some pl] = some (.nx, [some (.p 0), some (.d (.tuple xs)), some (.d (.int a)), none, none], [some p1]) := by
          simp -implicitDefEqProofs [m__law_swapped, e1]
        rw [evSs_cons, f0, Option.bind_some, nxt_nx, evSs_cons, f1, Option.bind_some, nxt_nx, evSs_cons, e0, Option.bind_some, nxt_nx, ← e]
        all_goals congr 1
      cases ht : isiD (xs[a.toNat]'(by omega)) .tuple with
      | false =>
        refine go p1 g1 ?_
        simp -implicitDefEqProofs [m__law_swapped, hat, ht]
      | true =>
        obtain ⟨d, p2, e2, g2, d0, d1⟩ := draw' (k + (n + 1)) 4 g1 (by decide) (by decide)
        by_cases hd : 0 < d
        · obtain ⟨y, p3, e3, g3, wy⟩ := ih _ (List.getElem_mem (show a.toNat < xs.length by omega)) k g2
          obtain ⟨_, ea, eb, wa⟩ := splice (n := 0) a0 z hw (ys := [y]) (by simp) (by simpa using wy) (a + 1) (by omega)
          refine ⟨_, p3, ?_, g3, wa⟩
          have e3' : G (k + (n + 1) + 2) 33 [.p 0, .d (xs[a.toNat]'(by omega))] [some p2] = some (.d y, [some p3]) := e3
          have ht' : isiD (.tuple xs) .tuple = true := rfl
          simp -implicitDefEqProofs [runD, m__law_swapped, hl', hne, e1, hat, ht, ht', e2, hd, e3', ea, eb]
        · refine go p2 g2 ?_
          simp -implicitDefEqProofs [m__law_swapped, hat, ht, e2, hd]
theorem changed_ok {n : Nat} {v : D} (hv : Tp n v) (th : List D) (h0 : 0 < th.length) (hth : th.length < 1000) (wth : ∀ x ∈ th, Wa x) : ∀ (k : Nat) {pl : List D} (h : GP [some pl]), ∃ x pl', G (k + n + 4) 34 [.p 0, .d v, .d (.list th)] [some pl] = some (.d x, [some pl']) ∧ GP [some pl'] ∧ Wa x := by
  induction hv with
  | int n i =>
    intro k pl h
    rw [c__law_changed]
    obtain ⟨x, p1, e1, g1, hx⟩ := pick_ok (k + n) th h h0 hth
    refine ⟨x, p1, ?_, g1, wth x hx⟩
    simp -implicitDefEqProofs [runD, m__law_changed, isiD, e1]
  | @tup n xs z hx ih =>
    intro k pl h
    rw [c__law_changed]
    have hw : ∀ x ∈ xs, Wa x := fun x h => (hx x h).wa
    by_cases hl : xs.length = 0
    · obtain rfl := List.eq_nil_of_length_eq_zero hl
      obtain ⟨x, p1, e1, g1, hx⟩ := pick_ok (k + (n + 1)) th h h0 hth
      refine ⟨x, p1, ?_, g1, wth x hx⟩
      simp -implicitDefEqProofs [runD, m__law_changed, isiD, e1]
    · have hl' : ¬ ((xs.length : Int) = 0) := by omega
      have hne : xs ≠ [] := fun e => hl (by rw [e]; rfl)
      obtain ⟨d, p1, e1, g1, d0, d1⟩ := draw' (k + (n + 1) + 1) 7 h (by decide) (by decide)
      by_cases hd : d = 0
      · obtain ⟨x, p2, e2, g2, hx⟩ := pick_ok (k + (n + 1)) th g1 h0 hth
        refine ⟨x, p2, ?_, g2, wth x hx⟩
        simp -implicitDefEqProofs [runD, m__law_changed, isiD, hl', hne, e1, hd, e2]
      · obtain ⟨a, p2, e2, g2, a0, a1⟩ := draw' (k + (n + 1) + 1) xs.length g1 (by omega) (by omega)
        have hat := atI_ok (xs := xs) a0 a1
        obtain ⟨y, p3, e3, g3, wy⟩ := ih _ (List.getElem_mem (show a.toNat < xs.length by omega)) k g2
        obtain ⟨_, ea, eb, wa⟩ := splice (n := 0) a0 z hw (ys := [y]) (by simp) (by simpa using wy) (a + 1) (by omega)
        refine ⟨_, p3, ?_, g3, wa⟩
        have e3' : G (k + (n + 1) + 3) 34 [.p 0, .d (xs[a.toNat]'(by omega)), .d (.list th)] [some p2] = some (.d y, [some p3]) := e3
        simp -implicitDefEqProofs [runD, m__law_changed, isiD, hl', hne, e1, hd, e2, hat, e3', ea, eb]
end Mu

namespace Mu
open PySem
theorem fm_none {rows : List (Int × Int)} {gs : List Int} (h : MG rows gs) : formB (machD rows gs) = true ∧ fmM rows gs = .none := by
  have hf := h.few
  have hp := h.pos
  constructor
  · have h3 : rowB 0 100000 (.tuple (gs.map .int)) = true := by
      rw [ints_row, List.all_eq_true]
      intro g hg
      obtain ⟨a, b⟩ := h.goods g hg
      rw [decide_eq_true a, decide_eq_true (by omega)]
      rfl
    have h4 : ((rows.map rowD).all fun r => rowB 0 100000 r && len2 r) = true := by
      rw [List.all_map, List.all_eq_true]
      intro p hp
      obtain ⟨a, b, c, d⟩ := h.to p hp
      show (rowB 0 100000 (rowD p) && len2 (rowD p)) = true
      rw [rowB_rowD, decide_eq_true a, decide_eq_true c, decide_eq_true (by omega : p.1 ≤ 100000), decide_eq_true (by omega : p.2 ≤ 100000)]
      rfl
    show (decide (1 ≤ (rows.map rowD).length) && decide ((rows.map rowD).length ≤ 100000) && rowB 0 100000 (.tuple (gs.map .int)) && (rows.map rowD).all fun r => rowB 0 100000 r && len2 r) = true
    rw [h3, h4, List.length_map, decide_eq_true hp, decide_eq_true (by omega)]
    rfl
  · have h1 : ftrue 0 (rows.map (badRow ((rows.length : Int) - 1))) = .none := by
      have key : ∀ (rs : List (Int × Int)) (k : Nat), (∀ p ∈ rs, p ∈ rows) → ftrue k (rs.map (badRow ((rows.length : Int) - 1))) = .none := by
        intro rs
        induction rs with
        | nil => intro k _; rfl
        | cons p rs ih =>
          intro k hs
          obtain ⟨a, b, c, d⟩ := h.to p (hs p List.mem_cons_self)
          have hb : badRow ((rows.length : Int) - 1) p = false := by
            unfold badRow
            rw [decide_eq_false]
            omega
          rw [List.map_cons, hb]
          show ftrue (k + 1) _ = _
          exact ih (k + 1) fun q hq => hs q (List.mem_cons_of_mem _ hq)
      exact key rows 0 fun _ h => h
    have h2 : goodOk ((rows.length : Int) - 1) gs = true := by
      rw [good_same _ _ fun g hg => (h.goods g hg).1, h.gup, Bool.true_and, List.all_eq_true]
      intro g hg
      have := (h.goods g hg).2
      exact decide_eq_true (by omega)
    unfold fmM
    rw [h1, h2]
    rfl
theorem lawf_mach (k : Nat) {rows : List (Int × Int)} {gs : List Int} (h : MG rows gs) (μ : Store) : G (k + 3) 36 [.d (machD rows gs)] μ = some (.d .none, μ) := by
  obtain ⟨h1, h2⟩ := fm_none h
  have big : 1000 ≤ sizeLine := by decide
  have hf := h.few
  have hg := h.gfew
  rw [lawf_good k rows gs μ h1 (by omega) h.pos (by omega) fun g hg => (h.goods g hg).1, h2]
theorem ftrue_pl (w : Str) (bs : List Bool) : ∀ k, faultAt w (ftrue k bs) = .none ∨ ∃ i, faultAt w (ftrue k bs) = .tuple [.str w, .int i] := by
  induction bs with
  | nil => intro k; exact .inl rfl
  | cons b bs ih =>
    intro k
    cases b with
    | true => exact .inr ⟨k, rfl⟩
    | false => exact ih (k + 1)
theorem two_fit : 2 ≤ sizeLine := by decide
theorem pl_pair (w : Str) (i : Int) : Pl 1 (.tuple [.str w, .int i]) := .tup two_fit fun x hx => by
  simp only [List.mem_cons, List.not_mem_nil, or_false] at hx
  rcases hx with rfl | rfl
  · exact .str _ _
  · exact .int _ _
theorem fmM_pl (rows : List (Int × Int)) (gs : List Int) : Pl 1 (fmM rows gs) := by
  unfold fmM
  rcases ftrue_pl "step" (rows.map (badRow ((rows.length : Int) - 1))) 0 with h | ⟨i, h⟩
  · rw [h]
    show Pl 1 (faultAt "good" _)
    split
    · exact .non _
    · exact pl_pair _ _
  · rw [h]
    exact pl_pair _ _
theorem fault_same (k : Nat) {v : D} (h : Wa v) (μ : Store) : ∃ d, G (k + 6) 8 [.d v] μ = some (.d d, μ) ∧ G (k + 6) 36 [.d v] μ = some (.d d, μ) ∧ Pl 1 d := by
  cases hf : formB v with
  | false => exact ⟨_, fault_bad k v μ hf, lawf_bad (k + 3) v μ hf, pl_pair _ _⟩
  | true =>
    obtain ⟨rows, gs, rfl, h1, h2, h3, h4⟩ := form_mach hf
    have big : 1000 ≤ sizeLine := by decide
    obtain ⟨_, hw⟩ := h 2 _ rfl
    obtain ⟨hz, _⟩ := hw (.tuple (gs.map .int)) (by simp) _ rfl
    rw [List.length_map] at hz
    exact ⟨fmM rows gs, fault_good k rows gs μ hf (by omega) h2, lawf_good (k + 3) rows gs μ hf (by omega) h1 h2 h4, fmM_pl rows gs⟩
/-! ### what is shown -/
theorem shown_small {i : Int} (h0 : 0 ≤ i) (h1 : i < 5) : (PyData.shown (.int i)).length ≤ 1 := by
  have : i = 0 ∨ i = 1 ∨ i = 2 ∨ i = 3 ∨ i = 4 := by omega
  rcases this with rfl | rfl | rfl | rfl | rfl <;> simp only [PyData.shown] <;> decide
theorem shown_tup {L : Nat} : ∀ {xs : List D}, (∀ x ∈ xs, (PyData.shown x).length ≤ L) → ((PyData.shownAll xs).map (·.length)).sum ≤ xs.length * L ∧ (PyData.shownAll xs).length = xs.length
  | [], _ => by simp [PyData.shownAll]
  | x :: xs, h => by
    obtain ⟨a, b⟩ := shown_tup (xs := xs) fun y hy => h y (List.mem_cons_of_mem _ hy)
    have := h x List.mem_cons_self
    simp only [PyData.shownAll, List.map_cons, List.sum_cons, List.length_cons, Nat.succ_mul]
    omega
theorem shown_tup_le {L : Nat} {xs : List D} (h : ∀ x ∈ xs, (PyData.shown x).length ≤ L) : (PyData.shown (.tuple xs)).length ≤ xs.length * L + 2 * xs.length + 3 := by
  obtain ⟨a, b⟩ := shown_tup h
  have := tupleText_len_le (PyData.shownAll xs)
  simp only [PyData.shown]
  omega
theorem showable_all {xs : List D} (h : ∀ x ∈ xs, PyData.showable x = true) : PyData.showable (.tuple xs) = true := by
  simp only [PyData.showable]
  induction xs with
  | nil => simp only [PyData.showableAll]
  | cons x xs ih =>
    simp only [PyData.showableAll, h x List.mem_cons_self, Bool.true_and]
    exact ih fun y hy => h y (List.mem_cons_of_mem _ hy)
theorem showable_small {i : Int} (h0 : 0 ≤ i) (h1 : i < 5) : PyData.showable (.int i) = true := by
  have : i = 0 ∨ i = 1 ∨ i = 2 ∨ i = 3 ∨ i = 4 := by omega
  rcases this with rfl | rfl | rfl | rfl | rfl <;> simp only [PyData.showable] <;> decide
theorem canLay_all {xs : List D} (h : ∀ x ∈ xs, PyData.canLay0 x = true) : PyData.canLayAll0 xs = true := by
  induction xs with
  | nil => simp only [PyData.canLayAll0]
  | cons x xs ih =>
    simp only [PyData.canLayAll0, h x List.mem_cons_self, Bool.true_and]
    exact ih fun y hy => h y (List.mem_cons_of_mem _ hy)
theorem depth_all {d : Nat} {xs : List D} (h : ∀ x ∈ xs, PyData.depth x ≤ d) : PyData.depthAll xs ≤ d := by
  induction xs with
  | nil => simp [PyData.depthAll]
  | cons x xs ih =>
    simp only [PyData.depthAll]
    exact Nat.max_le.mpr ⟨h x List.mem_cons_self, ih fun y hy => h y (List.mem_cons_of_mem _ hy)⟩
theorem tp_lay {n : Nat} {v : D} (h : Tp n v) : PyData.canLay0 v = true ∧ PyData.depth v ≤ n := by
  induction h with
  | int n i => exact ⟨by simp [PyData.canLay0], by simp [PyData.depth]⟩
  | tup z h ih => exact ⟨by simp only [PyData.canLay0]; exact canLay_all fun x hx => (ih x hx).1, by simp only [PyData.depth]; have := depth_all fun x hx => (ih x hx).2; omega⟩
theorem repr_mach {rows : List (Int × Int)} {gs : List Int} (h : MG rows gs) : ∃ s, biD .repr (machD rows gs) = some (.str s) := by
  have hf := h.few
  have hg := h.gfew
  have lay := tp_lay (tp_mach h)
  have s1 : ∀ x ∈ rows.map rowD, (PyData.shown x).length ≤ 9 ∧ PyData.showable x = true := fun x hx => by
    obtain ⟨p, hp, rfl⟩ := List.mem_map.mp hx
    obtain ⟨a, b, c, d⟩ := h.to p hp
    have e : ∀ x ∈ [PyData.int p.1, .int p.2], (PyData.shown x).length ≤ 1 ∧ PyData.showable x = true := fun x hx => by
      simp only [List.mem_cons, List.not_mem_nil, or_false] at hx
      rcases hx with rfl | rfl
      · exact ⟨shown_small a (by omega), showable_small a (by omega)⟩
      · exact ⟨shown_small c (by omega), showable_small c (by omega)⟩
    exact ⟨shown_tup_le (L := 1) fun x hx => (e x hx).1, showable_all fun x hx => (e x hx).2⟩
  have s2 : ∀ x ∈ gs.map PyData.int, (PyData.shown x).length ≤ 1 ∧ PyData.showable x = true := fun x hx => by
    obtain ⟨g, hg, rfl⟩ := List.mem_map.mp hx
    obtain ⟨a, b⟩ := h.goods g hg
    exact ⟨shown_small a (by omega), showable_small a (by omega)⟩
  have l1 := shown_tup_le fun x hx => (s1 x hx).1
  have l2 := shown_tup_le fun x hx => (s2 x hx).1
  rw [List.length_map] at l1 l2
  have l3 : ∀ x ∈ [PyData.tuple (rows.map rowD), .tuple (gs.map .int)], (PyData.shown x).length ≤ 100 ∧ PyData.showable x = true := fun x hx => by
    simp only [List.mem_cons, List.not_mem_nil, or_false] at hx
    rcases hx with rfl | rfl
    · exact ⟨by omega, showable_all fun x hx => (s1 x hx).2⟩
    · exact ⟨by omega, showable_all fun x hx => (s2 x hx).2⟩
  have l4 := shown_tup_le fun x hx => (l3 x hx).1
  have big : 1000 ≤ sizeLine := by decide
  have l5 : (PyData.shown (machD rows gs)).length ≤ sizeLine := by
    have : (PyData.shown (machD rows gs)).length ≤ 2 * 100 + 2 * 2 + 3 := l4
    omega
  refine ⟨PyData.shown (machD rows gs), ?_⟩
  have c : PyData.showable (machD rows gs) = true ∧ shp (machD rows gs) = true ∧ (PyData.shown (machD rows gs)).length ≤ sizeLine := ⟨showable_all fun x hx => (l3 x hx).2, shp_of lay.1 (by omega), l5⟩
  exact if_pos c
end Mu

namespace Mu
open PySem
theorem wa_one {v : D} (h : Wa v) : Wa (.tuple [v]) := .tup (by simp) fun x hx => by
  rw [List.mem_singleton.mp hx]
  exact h
theorem wa_two {v w : D} (h : Wa v) (h2 : Wa w) : Wa (.tuple [v, w]) := .tup (by simp) fun x hx => by
  simp only [List.mem_cons, List.not_mem_nil, or_false] at hx
  rcases hx with rfl | rfl
  · exact h
  · exact h2
theorem wa_three {v w u : D} (h : Wa v) (h2 : Wa w) (h3 : Wa u) : Wa (.tuple [v, w, u]) := .tup (by simp) fun x hx => by
  simp only [List.mem_cons, List.not_mem_nil, or_false] at hx
  rcases hx with rfl | rfl | rfl
  · exact h
  · exact h2
  · exact h3
theorem odd_ok (k : Nat) (μ : Store) : ∃ xs, G (k + 1) 22 [] μ = some (.d (.list xs), μ) ∧ xs.length = 22 ∧ ∀ x ∈ xs, Wa x := by
  rw [c__law_odd_values]
  obtain ⟨f, ρ', μ', e, rfl, rfl, d, y, rfl, wd⟩ := ev_for (C := C) (F := G k) (tg := .nm 1) (it := .rng (.int 90)) (b := [.set 0 (.tup (.cons (.var 0) .nil))]) (ρ := [some (.d (.tuple [])), none]) (μ := μ) (xs := rngD 0 90) (w := .none) (μ1 := μ)
    (fun r ρ m => m = μ ∧ ∃ d y, ρ = [some (.d d), y] ∧ Wa d)
    (fun f ρ m => f = .nx ∧ m = μ ∧ ∃ d y, ρ = [some (.d d), y] ∧ Wa d) (rng_ok (by simp) (by decide)) ⟨rfl, _, _, rfl, .nil⟩ (by
      rintro x r ρ m ⟨rfl, d, y, rfl, wd⟩
      refine ⟨_, rfl, .nx, [some (.d (.tuple [d])), some (.d x)], m, ?_, rfl, _, _, rfl, wa_one wd⟩
      simp -implicitDefEqProofs)
    (by
      rintro ρ m ⟨rfl, d, y, rfl, wd⟩
      exact ⟨rfl, rfl, d, y, rfl, wd⟩)
  refine ⟨[d, .tuple [.str "plan", d, d], .none, .int 0, .int 1, .bool true, .bool false, .str "", .str "x", .tuple [], .list [], .dict [], .tuple [.tuple []], .tuple [.tuple [], .tuple []], .tuple [.int 0], .tuple [.int 1, .int 2], .tuple [.str "x"], .tuple [.list []], .dict [], .tuple [.none], .tuple [.tuple [.tuple []]], .int (-1)], ?_, rfl, fun x hx => ?_⟩
  · simp -implicitDefEqProofs [runD, m__law_odd_values]
    rw [e]
    simp -implicitDefEqProofs [endD]
  · simp only [List.mem_cons, List.not_mem_nil, or_false] at hx
    rcases hx with rfl | rfl | rfl | rfl | rfl | rfl | rfl | rfl | rfl | rfl | rfl | rfl | rfl | rfl | rfl | rfl | rfl | rfl | rfl | rfl | rfl | rfl
    · exact wd
    · exact wa_three (.str _) wd wd
    · exact .non
    · exact .int _
    · exact .int _
    · exact .bool _
    · exact .bool _
    · exact .str _
    · exact .str _
    · exact .nil
    · exact .lst _
    · exact .dct _
    · exact wa_one .nil
    · exact wa_two .nil .nil
    · exact wa_one (.int _)
    · exact wa_two (.int _) (.int _)
    · exact wa_one (.str _)
    · exact wa_one (.lst _)
    · exact .dct _
    · exact wa_one .non
    · exact wa_one (wa_one .nil)
    · exact .int _
def things : List D := [.int 0, .int 1, .int 2, .int 3, .int 4, .int 5, .int (-1), .int 100001, .tuple [], .tuple [.int 0], .tuple [.int 1], .tuple [.int 0, .int 1], .tuple [.int 1, .int 0], .tuple [.int 0, .int 0, .int 0], .tuple [.int 1, .int 0, .int 1], .tuple [.str "letter", .int 0], .tuple [.str "blank"], .str "row", .str "a", .none, .bool true, .tuple [.tuple [.int 0, .int 1], .tuple [.int 1, .int 0]]]
theorem things_wa : ∀ x ∈ things, Wa x := fun x hx => by
  simp only [things, List.mem_cons, List.not_mem_nil, or_false] at hx
  rcases hx with rfl | rfl | rfl | rfl | rfl | rfl | rfl | rfl | rfl | rfl | rfl | rfl | rfl | rfl | rfl | rfl | rfl | rfl | rfl | rfl | rfl | rfl
  · exact .int _
  · exact .int _
  · exact .int _
  · exact .int _
  · exact .int _
  · exact .int _
  · exact .int _
  · exact .int _
  · exact .nil
  · exact wa_one (.int _)
  · exact wa_one (.int _)
  · exact wa_two (.int _) (.int _)
  · exact wa_two (.int _) (.int _)
  · exact wa_three (.int _) (.int _) (.int _)
  · exact wa_three (.int _) (.int _) (.int _)
  · exact wa_two (.str _) (.int _)
  · exact wa_one (.str _)
  · exact .str _
  · exact .str _
  · exact .non
  · exact .bool _
  · exact wa_two (wa_two (.int _) (.int _)) (wa_two (.int _) (.int _))
/-- so many turns of a call that draws -/
theorem turns_ok (k : Nat) (ρ : Rho) {pl : List D} (h : GP [some pl]) (i : Int) (n : Nat) (hi : i = n) (hn : n ≤ 100) (elt : E) (hl : ρ.length = 5)
    (hc : ∀ (x : D) {pl : List D}, GP [some pl] → ∃ y pl', evE C (G k) elt ((wipeR ρ [4]).set 4 (some (.d x))) [some pl] = some (.d y, [some pl']) ∧ GP [some pl'] ∧ Wa y) :
    ∃ ys pl', evE C (G k) (.comp [4] (.nm 4) (.rng (.int i)) .nil elt) ρ [some pl] = some (.d (.list ys), [some pl']) ∧ GP [some pl'] ∧ ys.length = n ∧ ∀ y ∈ ys, Wa y := by
  subst hi
  have big : 1000 ≤ sizeLine := by decide
  obtain ⟨ys, μ', e, g, fm⟩ := ev_compI (C := C) (F := G k) (ρ := ρ) (μ := [some pl]) (own := [4]) (tg := .nm 4) (it := .rng (.int n)) (cs := .nil) (elt := elt) (xs := rngD 0 n) (w := .none) (μ1 := [some pl])
    GP (fun _ zs => ∃ y, zs = [y] ∧ Wa y) (rng_ok (by simp) (rngOk_small (by omega) (by omega) (by omega) (by omega))) h (by
      rintro x hx m hm
      obtain ⟨_, _, _, _, _, rfl, _⟩ := id hm
      obtain ⟨y, p1, e1, g1, w1⟩ := hc x hm
      exact ⟨_, rfl, true, _, by simp; rfl, .inl ⟨rfl, y, [some p1], by rw [e1]; rfl, g1, y, rfl, w1⟩⟩)
  obtain ⟨hl, hw⟩ := fm_one fm
  obtain ⟨_, _, _, _, _, rfl, _⟩ := id g
  exact ⟨ys, _, e, g, by rw [hl, rngD_len]; omega, hw⟩
theorem bends_ok (k : Nat) {rows : List (Int × Int)} {gs : List Int} (hm : MG rows gs) {pl : List D} (h : GP [some pl]) : ∃ xs pl', G (k + 8) 35 [.p 0, .d (machD rows gs)] [some pl] = some (.d (.list xs), [some pl']) ∧ GP [some pl'] ∧ xs.length = 39 ∧ ∀ x ∈ xs, Wa x := by
  rw [c__law_bends]
  have big : 1000 ≤ sizeLine := by decide
  have tp := tp_mach hm
  have wa := tp.wa
  obtain ⟨l1, el1, wl1⟩ := listed_ok 1 tp 1 rfl (k + 5) [some pl]
  obtain ⟨l2, el2, wl2⟩ := listed_ok 2 tp 2 rfl (k + 4) [some pl]
  obtain ⟨bo, ebo, wbo⟩ := booled_ok tp (k + 2) [some pl]
  have el1' : G (k + 7) 21 [.d (machD rows gs), .d (.int 1)] [some pl] = some (.d l1, [some pl]) := el1
  have el2' : G (k + 7) 21 [.d (machD rows gs), .d (.int 2)] [some pl] = some (.d l2, [some pl]) := el2
  have ebo' : G (k + 7) 20 [.d (machD rows gs)] [some pl] = some (.d bo, [some pl]) := ebo
  have parts : ∀ x ∈ [PyData.tuple (rows.map rowD), .tuple (gs.map .int)], Wa x := fun x hx => by
    obtain ⟨_, hw⟩ := wa 1 _ rfl
    refine (?_ : ∀ x ∈ [PyData.tuple (rows.map rowD), .tuple (gs.map .int)], Wa x) x hx
    cases tp with
    | tup z hx => exact fun x h => (hx x h).wa
  have wcut : ∀ lo hi, Wa (.tuple (cutD [PyData.tuple (rows.map rowD), .tuple (gs.map .int)] lo hi)) := fun lo hi => by
    have := cutD_le [PyData.tuple (rows.map rowD), .tuple (gs.map .int)] lo hi
    refine .tup (by simp only [List.length_cons, List.length_nil] at this; omega) fun x hx => parts x (cutD_mem hx)
  have ej : bopD .add (.tuple [PyData.tuple (rows.map rowD), .tuple (gs.map .int)]) (.tuple (cutD [PyData.tuple (rows.map rowD), .tuple (gs.map .int)] (some (-1)) none)) = some (.tuple ([PyData.tuple (rows.map rowD), .tuple (gs.map .int)] ++ cutD [PyData.tuple (rows.map rowD), .tuple (gs.map .int)] (some (-1)) none)) := by
    refine bop_tup _ _ ?_
    have := cutD_le [PyData.tuple (rows.map rowD), .tuple (gs.map .int)] (some (-1)) none
    simp only [List.length_cons, List.length_nil] at this ⊢
    omega
  have wj : Wa (.tuple ([PyData.tuple (rows.map rowD), .tuple (gs.map .int)] ++ cutD [PyData.tuple (rows.map rowD), .tuple (gs.map .int)] (some (-1)) none)) := by
    have := cutD_le [PyData.tuple (rows.map rowD), .tuple (gs.map .int)] (some (-1)) none
    refine .tup (by simp only [List.length_append, List.length_cons, List.length_nil] at this ⊢; omega) fun x hx => ?_
    rcases List.mem_append.mp hx with hx | hx
    · exact parts x hx
    · exact parts x (cutD_mem hx)
  let f0 : List D := [.list [.tuple (rows.map rowD), .tuple (gs.map .int)], .tuple (cutD [.tuple (rows.map rowD), .tuple (gs.map .int)] (some 1) none), .tuple (cutD [.tuple (rows.map rowD), .tuple (gs.map .int)] none (some (-1))),
    .tuple ([PyData.tuple (rows.map rowD), .tuple (gs.map .int)] ++ cutD [PyData.tuple (rows.map rowD), .tuple (gs.map .int)] (some (-1)) none), .tuple [machD rows gs], l1, l2, bo, .tuple []]
  have wf : ∀ x ∈ f0, Wa x := fun x hx => by
    simp only [f0, List.mem_cons, List.not_mem_nil, or_false] at hx
    rcases hx with rfl | rfl | rfl | rfl | rfl | rfl | rfl | rfl | rfl
    · exact .lst _
    · exact wcut _ _
    · exact wcut _ _
    · exact wj
    · exact wa_one wa
    · exact wl1
    · exact wl2
    · exact wbo
    · exact .nil
  obtain ⟨y1, p1, e1, g1, n1, w1⟩ := turns_ok (k + 7) [some (.p 0), some (.d (machD rows gs)), some (.d (.list things)), some (.d (.list f0)), none] h 14 14 rfl (by decide) (.call 34 (.cons (.var 0) (.cons (.var 1) (.cons (.var 2) .nil)))) rfl (fun x pl hp => by
    obtain ⟨y, p, e, g, w⟩ := changed_ok tp things (by decide) (by decide) things_wa k hp
    have e' : G (k + 7) 34 [.p 0, .d (machD rows gs), .d (.list things)] [some pl] = some (.d y, [some p]) := e
    exact ⟨y, p, by simp -implicitDefEqProofs [wipeR, e'], g, w⟩)
  obtain ⟨y2, p2, e2, g2, n2, w2⟩ := turns_ok (k + 7) [some (.p 0), some (.d (machD rows gs)), some (.d (.list things)), some (.d (.list f0)), none] g1 9 9 rfl (by decide) (.call 33 (.cons (.var 0) (.cons (.var 1) .nil))) rfl (fun x pl hp => by
    obtain ⟨y, p, e, g, w⟩ := swapped_ok tp (k + 1) hp
    have e' : G (k + 7) 33 [.p 0, .d (machD rows gs)] [some pl] = some (.d y, [some p]) := e
    exact ⟨y, p, by simp -implicitDefEqProofs [wipeR, e'], g, w⟩)
  obtain ⟨y3, p3, e3, g3, n3, w3⟩ := turns_ok (k + 7) [some (.p 0), some (.d (machD rows gs)), some (.d (.list things)), some (.d (.list (f0 ++ y1 ++ y2))), none] g2 7 7 rfl (by decide) (.call 19 (.cons (.var 0) (.cons (.var 1) .nil))) rfl (fun x pl hp => by
    obtain ⟨y, p, e, g, w⟩ := bent_ok tp (k + 1) hp
    have e' : G (k + 7) 19 [.p 0, .d (machD rows gs)] [some pl] = some (.d y, [some p]) := e
    exact ⟨y, p, by simp -implicitDefEqProofs [wipeR, e'], g, w⟩)
  have a1 := bop_lst f0 y1 (by rw [n1]; show 9 + 14 ≤ sizeLine; omega)
  have a2 := bop_lst (f0 ++ y1) y2 (by rw [List.length_append, n1, n2]; show 9 + 14 + 9 ≤ sizeLine; omega)
  have a3 := bop_lst (f0 ++ y1 ++ y2) y3 (by rw [List.length_append, List.length_append, n1, n2, n3]; show 9 + 14 + 9 + 7 ≤ sizeLine; omega)
  refine ⟨f0 ++ y1 ++ y2 ++ y3, p3, ?_, g3, by rw [List.length_append, List.length_append, List.length_append, n1, n2, n3]; rfl, fun x hx => ?_⟩
  · have cut : m__law_bends.body = m__law_bends.body.headD .pass :: (m__law_bends.body.drop 1).headD .pass :: m__law_bends.body.drop 2 := rfl
    unfold runD
    rw [cut, if_pos ⟨rfl, by simp⟩]
    have s0 : evS C (G (k + 7)) (m__law_bends.body.headD .pass) (List.map some [Val.p 0, .d (machD rows gs)] ++ List.replicate (m__law_bends.n - m__law_bends.ps) none) [some pl] = some (.nx, [some (.p 0), some (.d (machD rows gs)), some (.d (.list things)), none, none], [some pl]) := by
      simp -implicitDefEqProofs [m__law_bends, things]
    have s1 : evS C (G (k + 7)) ((m__law_bends.body.drop 1).headD .pass) [some (.p 0), some (.d (machD rows gs)), some (.d (.list things)), none, none] [some pl] = some (.nx, [some (.p 0), some (.d (machD rows gs)), some (.d (.list things)), some (.d (.list f0)), none], [some pl]) := by
      have b1 : biD .lst (machD rows gs) = some (.list [.tuple (rows.map rowD), .tuple (gs.map .int)]) := rfl
      have b2 : ∀ lo hi, sliD (machD rows gs) lo hi = some (.tuple (cutD [.tuple (rows.map rowD), .tuple (gs.map .int)] lo hi)) := fun _ _ => rfl
      have b3 : bopD .add (machD rows gs) (.tuple (cutD [PyData.tuple (rows.map rowD), .tuple (gs.map .int)] (some (-1)) none)) = _ := ej
      simp -implicitDefEqProofs [m__law_bends, el1', el2', ebo', f0, b1, b2, b3]
    rw [evSs_cons, s0, Option.bind_some, nxt_nx, evSs_cons, s1, Option.bind_some, nxt_nx]
    simp -implicitDefEqProofs only [m__law_bends, List.drop, evSs_cons, evS_set, evS_ret, evE_bop, evE_var, List.getElem?_cons_zero, List.getElem?_cons_succ, Option.bind_some, e1, e2, rd2_d, a1, a2, Option.map_some, bdV_dd, if_true, List.set, nxt_nx, e3, a3, nxt_ret]
    simp
  · rcases List.mem_append.mp hx with hx | hx
    · rcases List.mem_append.mp hx with hx | hx
      · rcases List.mem_append.mp hx with hx | hx
        · exact wf x hx
        · exact w1 x hx
      · exact w2 x hx
    · exact w3 x hx
end Mu

namespace Mu
open PySem
theorem same2 (k : Nat) (b : Bool) (μ : Store) : G (k + 2) 14 [.d (.list [.bool b, .bool b]), .d (.list [.bool b, .bool b])] μ = some (.d (.bool true), μ) :=
  same_refl (n := 1) (.lst (xs := [.bool b, .bool b]) two_fit fun x hx => by
    simp only [List.mem_cons, List.not_mem_nil, or_false] at hx
    rcases hx with rfl | rfl
    · exact .bl _ _
    · exact .bl _ _) k μ
theorem twice_fit : -(2 ^ 63) ≤ (2 : Int) ∧ (2 : Int) < 2 ^ 63 ∧ 1 * (2 : Int).toNat ≤ sizeLine := by decide
theorem words_eq (k : Nat) {rows : List (Int × Int)} {gs : List Int} (hm : MG rows gs) (pl : List D) (a0 a1 a2 a3 a4 a5 a7 a8 a9 : Option Val) :
    ∃ y, evS C (G (k + 4)) (.for_ (.nm 8) (.seq (.call 28 (.cons (.int 4) .nil))) [.ife (.inot (.call 14 (.cons (.lst (.cons (.call 10 (.cons (.var 6) (.cons (.var 8) .nil))) (.cons (.call 30 (.cons (.var 10) (.cons (.var 8) .nil))) .nil))) (.cons (.rep (.cons (.call 30 (.cons (.var 6) (.cons (.var 8) .nil))) .nil) (.int 2)) .nil)))) [.ret (.bl false)] []])
      [a0, a1, a2, a3, a4, a5, some (.d (machD rows gs)), a7, a8, a9, some (.d (machD rows gs))] [some pl] = some (.nx, [a0, a1, a2, a3, a4, a5, some (.d (machD rows gs)), a7, y, a9, some (.d (machD rows gs))], [some pl]) := by
  obtain ⟨ws, ew, hw⟩ := all_words_ok (k + 2) 4 (by decide) [some pl]
  have ew' : G (k + 4) 28 [.d (.int 4)] [some pl] = some (.d (.list (ws.map wd)), [some pl]) := ew
  obtain ⟨f, ρ', μ', e, rfl, rfl, y, rfl⟩ := ev_for (C := C) (F := G (k + 4)) (tg := .nm 8) (it := .seq (.call 28 (.cons (.int 4) .nil))) (b := [.ife (.inot (.call 14 (.cons (.lst (.cons (.call 10 (.cons (.var 6) (.cons (.var 8) .nil))) (.cons (.call 30 (.cons (.var 10) (.cons (.var 8) .nil))) .nil))) (.cons (.rep (.cons (.call 30 (.cons (.var 6) (.cons (.var 8) .nil))) .nil) (.int 2)) .nil)))) [.ret (.bl false)] []])
    (ρ := [a0, a1, a2, a3, a4, a5, some (.d (machD rows gs)), a7, a8, a9, some (.d (machD rows gs))]) (μ := [some pl]) (xs := ws.map wd) (w := .list (ws.map wd)) (μ1 := [some pl])
    (fun r ρ m => (∀ x ∈ r, ∃ w, x = wd w ∧ bits w) ∧ m = [some pl] ∧ ∃ y, ρ = [a0, a1, a2, a3, a4, a5, some (.d (machD rows gs)), a7, y, a9, some (.d (machD rows gs))])
    (fun f ρ m => f = .nx ∧ m = [some pl] ∧ ∃ y, ρ = [a0, a1, a2, a3, a4, a5, some (.d (machD rows gs)), a7, y, a9, some (.d (machD rows gs))]) (by simp -implicitDefEqProofs [ew'])
    ⟨fun x hx => by
      obtain ⟨w, hm, rfl⟩ := List.mem_map.mp hx
      exact ⟨w, rfl, hw w hm⟩, rfl, _, rfl⟩ (by
      rintro x r ρ m ⟨hr, rfl, y, rfl⟩
      obtain ⟨w, rfl, hb⟩ := hr _ List.mem_cons_self
      refine ⟨_, rfl, .nx, [a0, a1, a2, a3, a4, a5, some (.d (machD rows gs)), a7, some (.d (wd w)), a9, some (.d (machD rows gs))], [some pl], ?_, fun y hy => hr y (List.mem_cons_of_mem _ hy), rfl, _, rfl⟩
      have h1 := has_word_ok (k + 2) hm w hb [some pl]
      have h2 := takes_ok (k + 2) hm w hb [some pl]
      have h3 := same2 (k + 2) (tk rows gs w) [some pl]
      have h4 := twice_fit
      have h5 : (List.replicate (2 : Int).toNat [PyData.bool (tk rows gs w)]).flatten = [.bool (tk rows gs w), .bool (tk rows gs w)] := rfl
      simp -implicitDefEqProofs only [evSs_cons, evSs_nil, evS_ife, evE_inot, evE_call, evVs_cons, evVs_nil, evE_lst, evEs_cons, evEs_nil, evE_var, evE_rep, evE_int, List.set, List.getElem?_cons_zero, List.getElem?_cons_succ, Option.bind_some, toF_d, toI_i, List.length_cons, List.length_nil, Nat.zero_add, h1, h2, h4, h5, h3, if_true, and_self, toT_b, Bool.not_true, nxt_nx]
      simp)
    (by
      rintro ρ m ⟨hr, rfl, y, rfl⟩
      exact ⟨rfl, rfl, y, rfl⟩)
  exact ⟨y, e⟩
theorem words_eq5 (k : Nat) {rows : List (Int × Int)} {gs : List Int} (hm : MG rows gs) (pl : List D) (a0 a1 a2 a4 a5 a6 a8 a9 a10 : Option Val) :
    ∃ y, evS C (G (k + 4)) (.for_ (.nm 8) (.seq (.call 28 (.cons (.int 5) .nil))) [.ife (.cmp .ne (.call 30 (.cons (.var 7) (.cons (.var 8) .nil))) (.call 30 (.cons (.var 3) (.cons (.var 8) .nil)))) [.ret (.bl false)] []])
      [a0, a1, a2, some (.d (machD rows gs)), a4, a5, a6, some (.d (machD rows gs)), a8, a9, a10] [some pl] = some (.nx, [a0, a1, a2, some (.d (machD rows gs)), a4, a5, a6, some (.d (machD rows gs)), y, a9, a10], [some pl]) := by
  obtain ⟨ws, ew, hw⟩ := all_words_ok (k + 2) 5 (by decide) [some pl]
  have ew' : G (k + 4) 28 [.d (.int 5)] [some pl] = some (.d (.list (ws.map wd)), [some pl]) := ew
  obtain ⟨f, ρ', μ', e, rfl, rfl, y, rfl⟩ := ev_for (C := C) (F := G (k + 4)) (tg := .nm 8) (it := .seq (.call 28 (.cons (.int 5) .nil))) (b := [.ife (.cmp .ne (.call 30 (.cons (.var 7) (.cons (.var 8) .nil))) (.call 30 (.cons (.var 3) (.cons (.var 8) .nil)))) [.ret (.bl false)] []])
    (ρ := [a0, a1, a2, some (.d (machD rows gs)), a4, a5, a6, some (.d (machD rows gs)), a8, a9, a10]) (μ := [some pl]) (xs := ws.map wd) (w := .list (ws.map wd)) (μ1 := [some pl])
    (fun r ρ m => (∀ x ∈ r, ∃ w, x = wd w ∧ bits w) ∧ m = [some pl] ∧ ∃ y, ρ = [a0, a1, a2, some (.d (machD rows gs)), a4, a5, a6, some (.d (machD rows gs)), y, a9, a10])
    (fun f ρ m => f = .nx ∧ m = [some pl] ∧ ∃ y, ρ = [a0, a1, a2, some (.d (machD rows gs)), a4, a5, a6, some (.d (machD rows gs)), y, a9, a10]) (by simp -implicitDefEqProofs [ew'])
    ⟨fun x hx => by
      obtain ⟨w, hm, rfl⟩ := List.mem_map.mp hx
      exact ⟨w, rfl, hw w hm⟩, rfl, _, rfl⟩ (by
      rintro x r ρ m ⟨hr, rfl, y, rfl⟩
      obtain ⟨w, rfl, hb⟩ := hr _ List.mem_cons_self
      refine ⟨_, rfl, .nx, [a0, a1, a2, some (.d (machD rows gs)), a4, a5, a6, some (.d (machD rows gs)), some (.d (wd w)), a9, a10], [some pl], ?_, fun y hy => hr y (List.mem_cons_of_mem _ hy), rfl, _, rfl⟩
      have h2 := takes_ok (k + 2) hm w hb [some pl]
      simp -implicitDefEqProofs only [evSs_cons, evSs_nil, evS_ife, evE_cmp, evE_call, evVs_cons, evVs_nil, evE_var, List.set, List.getElem?_cons_zero, List.getElem?_cons_succ, Option.bind_some, h2, rd2_d, cmp_ne_b, Option.map_some, toT_b, bne_self_eq_false, nxt_nx]
      simp)
    (by
      rintro ρ m ⟨hr, rfl, y, rfl⟩
      exact ⟨rfl, rfl, y, rfl⟩)
  exact ⟨y, e⟩
theorem faults_eq (k : Nat) (pl pl' : List D) (it : E) (xs : List D) (hx : ∀ x ∈ xs, Wa x) (a0 a1 a2 a3 a4 a5 a6 a7 a8 a9 a10 : Option Val) (hi : evE C (G (k + 8)) it [a0, a1, a2, a3, a4, a5, a6, a7, a8, a9, a10] [some pl] = some (.d (.list xs), [some pl'])) :
    ∃ y, evS C (G (k + 8)) (.for_ (.nm 6) (.seq it) [.ife (.inot (.call 14 (.cons (.call 8 (.cons (.var 6) .nil)) (.cons (.call 36 (.cons (.var 6) .nil)) .nil)))) [.ret (.bl false)] []])
      [a0, a1, a2, a3, a4, a5, a6, a7, a8, a9, a10] [some pl] = some (.nx, [a0, a1, a2, a3, a4, a5, y, a7, a8, a9, a10], [some pl']) := by
  obtain ⟨f, ρ', μ', e, rfl, rfl, y, rfl⟩ := ev_for (C := C) (F := G (k + 8)) (tg := .nm 6) (it := .seq it) (b := [.ife (.inot (.call 14 (.cons (.call 8 (.cons (.var 6) .nil)) (.cons (.call 36 (.cons (.var 6) .nil)) .nil)))) [.ret (.bl false)] []])
    (ρ := [a0, a1, a2, a3, a4, a5, a6, a7, a8, a9, a10]) (μ := [some pl]) (xs := xs) (w := .list xs) (μ1 := [some pl'])
    (fun r ρ m => (∀ x ∈ r, Wa x) ∧ m = [some pl'] ∧ ∃ y, ρ = [a0, a1, a2, a3, a4, a5, y, a7, a8, a9, a10])
    (fun f ρ m => f = .nx ∧ m = [some pl'] ∧ ∃ y, ρ = [a0, a1, a2, a3, a4, a5, y, a7, a8, a9, a10]) (by rw [evI_seq, hi]; rfl) ⟨hx, rfl, _, rfl⟩ (by
      rintro x r ρ m ⟨hr, rfl, y, rfl⟩
      obtain ⟨d, h1, h2, h3⟩ := fault_same (k + 2) (hr x List.mem_cons_self) [some pl']
      have h4 := same_refl h3 (k + 6) [some pl']
      refine ⟨_, rfl, .nx, [a0, a1, a2, a3, a4, a5, some (.d x), a7, a8, a9, a10], [some pl'], ?_, fun y hy => hr y (List.mem_cons_of_mem _ hy), rfl, _, rfl⟩
      simp -implicitDefEqProofs only [evSs_cons, evSs_nil, evS_ife, evE_inot, evE_call, evVs_cons, evVs_nil, evE_var, List.set, List.getElem?_cons_zero, List.getElem?_cons_succ, Option.bind_some, h1, h2, h4, toT_b, Bool.not_true, nxt_nx]
      simp)
    (by
      rintro ρ m ⟨hr, rfl, y, rfl⟩
      exact ⟨rfl, rfl, y, rfl⟩)
  exact ⟨y, e⟩
end Mu

namespace Mu
open PySem
theorem from_ok (k : Nat) (v : D) (μ : Store) : G (k + 1) 11 [.d v] μ = some (.d v, μ) := by
  rw [c_from_machines]
  simp -implicitDefEqProofs [runD, m_from_machines, endD]
theorem to_ok (k : Nat) (v : D) (μ : Store) : G (k + 1) 12 [.d v] μ = some (.d v, μ) := by
  rw [c_to_machines]
  simp -implicitDefEqProofs [runD, m_to_machines, endD]
/-- the parts of the law's loop -/
def turnB : List S := match m_law.body.drop 1 with
  | .for_ _ _ b :: _ => b
  | _ => []
def oneB : S := (turnB.drop 4).headD .pass
def restB : S := (turnB.drop 7).headD .pass
theorem one_ok (k : Nat) {rows rows' : List (Int × Int)} {gs gs' : List Int} (h1 : MG rows gs) (h2 : MG rows' gs') (pl : List D) (a0 a1 a2 a3 a6 a7 a8 a9 a10 : Option Val) :
    ∃ y6 y8 y9 y10, evS C (G (k + 8)) oneB [a0, a1, a2, a3, some (.d (machD rows gs)), some (.d (machD rows' gs')), a6, a7, a8, a9, a10] [some pl] = some (.nx, [a0, a1, a2, a3, some (.d (machD rows gs)), some (.d (machD rows' gs')), y6, a7, y8, y9, y10], [some pl]) := by
  obtain ⟨f, ρ', μ', e, rfl, rfl, y6, y8, y9, y10, rfl⟩ := ev_for (C := C) (F := G (k + 8)) (tg := .nm 6) (it := .seq (.tup (.cons (.var 4) (.cons (.var 5) .nil)))) (b := match oneB with | .for_ _ _ b => b | _ => [])
    (ρ := [a0, a1, a2, a3, some (.d (machD rows gs)), some (.d (machD rows' gs')), a6, a7, a8, a9, a10]) (μ := [some pl]) (xs := [machD rows gs, machD rows' gs']) (w := .tuple [machD rows gs, machD rows' gs']) (μ1 := [some pl])
    (fun r ρ m => (∀ x ∈ r, ∃ rows gs, x = machD rows gs ∧ MG rows gs) ∧ m = [some pl] ∧ ∃ y6 y8 y9 y10, ρ = [a0, a1, a2, a3, some (.d (machD rows gs)), some (.d (machD rows' gs')), y6, a7, y8, y9, y10])
    (fun f ρ m => f = .nx ∧ m = [some pl] ∧ ∃ y6 y8 y9 y10, ρ = [a0, a1, a2, a3, some (.d (machD rows gs)), some (.d (machD rows' gs')), y6, a7, y8, y9, y10]) (by simp -implicitDefEqProofs)
    ⟨fun x hx => by
      simp only [List.mem_cons, List.not_mem_nil, or_false] at hx
      rcases hx with rfl | rfl
      · exact ⟨_, _, rfl, h1⟩
      · exact ⟨_, _, rfl, h2⟩, rfl, _, _, _, _, rfl⟩ (by
      rintro x r ρ m ⟨hr, rfl, y6, y8, y9, y10, rfl⟩
      obtain ⟨rs, g, rfl, hm⟩ := hr x List.mem_cons_self
      obtain ⟨s, hs⟩ := repr_mach hm
      obtain ⟨y, ey⟩ := words_eq (k + 4) hm pl a0 a1 a2 a3 (some (.d (machD rows gs))) (some (.d (machD rows' gs'))) a7 y8 (some (.d (.str s)))
      have et := to_ok (k + 7) (machD rs g) [some pl]
      have el := lawf_mach (k + 5) hm [some pl]
      refine ⟨_, rfl, .nx, [a0, a1, a2, a3, some (.d (machD rows gs)), some (.d (machD rows' gs')), some (.d (machD rs g)), a7, y, some (.d (.str s)), some (.d (machD rs g))], [some pl], ?_, fun y hy => hr y (List.mem_cons_of_mem _ hy), rfl, _, _, _, _, rfl⟩
      simp -implicitDefEqProofs only [oneB, turnB, m_law, List.drop, List.headD_cons, evSs_cons, evSs_nil, evS_ife, evS_set, evE_cmp, evE_notN, evE_bi, evE_call, evVs_cons, evVs_nil, evE_var, List.set, List.getElem?_cons_zero, List.getElem?_cons_succ, Option.bind_some, Option.map_some, rd1_d, hs, et, el, bdV_dd, if_true, nxt_nx, noneV_none, Bool.not_true, toT_b, ey, rd2_d, cmp_ne_s]
      simp -implicitDefEqProofs [ey, hs])
    (by
      rintro ρ m ⟨hr, rfl, y6, y8, y9, y10, rfl⟩
      exact ⟨rfl, rfl, y6, y8, y9, y10, rfl⟩)
  exact ⟨y6, y8, y9, y10, e⟩
theorem turn_ok (k : Nat) {pl : List D} (h : GP [some pl]) (a0 a2 a3 a4 a5 a6 a7 a8 a9 a10 : Option Val) :
    ∃ pl' b3 b4 b5 b6 b7 b8 b9 b10, evSs C (G (k + 8)) turnB [a0, some (.p 0), a2, a3, a4, a5, a6, a7, a8, a9, a10] [some pl] = some (.nx, [a0, some (.p 0), a2, b3, b4, b5, b6, b7, b8, b9, b10], [some pl']) ∧ GP [some pl'] := by
  obtain ⟨r1, g1, p1, e1, q1, m1⟩ := machine_ok (k + 4) 4 (by decide) (by decide) h
  obtain ⟨r2, g2, p2, e2, q2, m2⟩ := machine_ok (k + 4) 5 (by decide) (by decide) q1
  have f1 := lawf_mach (k + 5) m1 [some p2]
  have f2 := lawf_mach (k + 5) m2 [some p2]
  have fr := from_ok (k + 7) (machD r1 g1) [some p1]
  have to := to_ok (k + 7) (machD r1 g1) [some p2]
  obtain ⟨y6, y8, y9, y10, eo⟩ := one_ok k m1 m2 p2 a0 (some (.p 0)) a2 (some (.d (machD r1 g1))) a6 a7 a8 a9 a10
  obtain ⟨z8, e5⟩ := words_eq5 (k + 4) m1 p2 a0 (some (.p 0)) a2 (some (.d (machD r1 g1))) (some (.d (machD r2 g2))) y6 y8 y9 y10
  obtain ⟨bs, p3, eb, q3, nb, wb⟩ := bends_ok k m2 q2
  obtain ⟨od, eod, no, wo⟩ := odd_ok (k + 7) [some p3]
  have big : 1000 ≤ sizeLine := by decide
  have a1 := bop_lst [machD r1 g1, machD r2 g2] bs (by rw [nb]; show 2 + 39 ≤ sizeLine; omega)
  have a2' := bop_lst ([machD r1 g1, machD r2 g2] ++ bs) od (by rw [List.length_append, nb, no]; show 2 + 39 + 22 ≤ sizeLine; omega)
  obtain ⟨z6, ef⟩ := faults_eq k p2 p3 (.bop .add (.bop .add (.lst (.cons (.var 4) (.cons (.var 5) .nil))) (.call 35 (.cons (.var 1) (.cons (.var 5) .nil)))) (.call 22 .nil)) ([machD r1 g1, machD r2 g2] ++ bs ++ od) (fun x hx => by
    rcases List.mem_append.mp hx with hx | hx
    · rcases List.mem_append.mp hx with hx | hx
      · simp only [List.mem_cons, List.not_mem_nil, or_false] at hx
        rcases hx with rfl | rfl
        · exact (tp_mach m1).wa
        · exact (tp_mach m2).wa
      · exact wb x hx
    · exact wo x hx) a0 (some (.p 0)) a2 (some (.d (machD r1 g1))) (some (.d (machD r1 g1))) (some (.d (machD r2 g2))) y6 (some (.d (machD r1 g1))) z8 y9 y10 (by
    simp -implicitDefEqProofs only [evE_bop, evE_lst, evEs_cons, evEs_nil, evE_var, evE_call, evVs_cons, evVs_nil, List.getElem?_cons_zero, List.getElem?_cons_succ, Option.bind_some, toF_d, eb, rd2_d, a1, Option.map_some, eod, a2'])
  refine ⟨p3, some (.d (machD r1 g1)), some (.d (machD r1 g1)), some (.d (machD r2 g2)), z6, some (.d (machD r1 g1)), z8, y9, y10, ?_, q3⟩
  have cut : turnB = (turnB.take 4) ++ oneB :: (turnB.drop 5).headD .pass :: (turnB.drop 6).headD .pass :: [restB] := rfl
  have t0 : ∀ r, evSs C (G (k + 8)) (turnB.take 4 ++ r) [a0, some (.p 0), a2, a3, a4, a5, a6, a7, a8, a9, a10] [some pl] = evSs C (G (k + 8)) r [a0, some (.p 0), a2, some (.d (machD r1 g1)), some (.d (machD r1 g1)), some (.d (machD r2 g2)), a6, a7, a8, a9, a10] [some p2] := by
    intro r
    simp -implicitDefEqProofs only [turnB, m_law, List.drop, List.take, List.cons_append, List.nil_append, evSs_cons, evSs_nil, evS_ife, evS_set, evE_bor, evOr_two, evOr_one, evE_notN, evE_int, evE_call, evVs_cons, evVs_nil, evE_var, List.set, List.getElem?_cons_zero, List.getElem?_cons_succ, Option.bind_some, Option.map_some, e1, e2, f1, f2, fr, bdV_dd, if_true, nxt_nx, noneV_none, Bool.not_true, toB_b, toT_b, Bool.false_eq_true, if_false]
  rw [cut, t0, evSs_cons, eo, Option.bind_some, nxt_nx, evSs_cons]
  have t5 : evS C (G (k + 8)) ((turnB.drop 5).headD .pass) [a0, some (.p 0), a2, some (.d (machD r1 g1)), some (.d (machD r1 g1)), some (.d (machD r2 g2)), y6, a7, y8, y9, y10] [some p2] = some (.nx, [a0, some (.p 0), a2, some (.d (machD r1 g1)), some (.d (machD r1 g1)), some (.d (machD r2 g2)), y6, some (.d (machD r1 g1)), y8, y9, y10], [some p2]) := by
    simp -implicitDefEqProofs only [turnB, m_law, List.drop, List.headD_cons, evS_set, evE_call, evVs_cons, evVs_nil, evE_var, List.set, List.getElem?_cons_zero, List.getElem?_cons_succ, Option.bind_some, to, bdV_dd, if_true]
  have t6 : evS C (G (k + 8)) ((turnB.drop 6).headD .pass) [a0, some (.p 0), a2, some (.d (machD r1 g1)), some (.d (machD r1 g1)), some (.d (machD r2 g2)), y6, some (.d (machD r1 g1)), y8, y9, y10] [some p2] = _ := e5
  have t7 : evS C (G (k + 8)) restB [a0, some (.p 0), a2, some (.d (machD r1 g1)), some (.d (machD r1 g1)), some (.d (machD r2 g2)), y6, some (.d (machD r1 g1)), z8, y9, y10] [some p2] = _ := ef
  rw [t5, Option.bind_some, nxt_nx, evSs_cons, t6, Option.bind_some, nxt_nx, evSs_cons, t7, Option.bind_some, nxt_nx, evSs_nil]
theorem law_true (ns : List Int) (h : ns.length ≤ 63) : callF C fs 60 37 [.d (.list (ns.map .int))] [] = some (.d (.bool true), []) := by
  rw [← G_eq, c_law 59]
  obtain ⟨pl, ep, gp⟩ := pool_ok 58 ns
  have big : 1000 ≤ sizeLine := by decide
  obtain ⟨f, ρ', μ', e, rfl, ⟨q, rfl⟩⟩ := ev_for (C := C) (F := G 59) (tg := .nm 2) (it := .rng (.int 3)) (b := turnB)
    (ρ := [some (.d (.list (ns.map .int))), some (.p 0), none, none, none, none, none, none, none, none, none]) (μ := [some pl]) (xs := rngD 0 3) (w := .none) (μ1 := [some pl])
    (fun r ρ m => ∃ q, m = [some q] ∧ GP [some q] ∧ ∃ a2 a3 a4 a5 a6 a7 a8 a9 a10, ρ = [some (.d (.list (ns.map .int))), some (.p 0), a2, a3, a4, a5, a6, a7, a8, a9, a10])
    (fun f ρ m => f = .nx ∧ ∃ q, m = [some q]) (rng_ok (by simp) (by decide)) ⟨pl, rfl, gp, _, _, _, _, _, _, _, _, _, rfl⟩ (by
      rintro x r ρ m ⟨q, rfl, gq, a2, a3, a4, a5, a6, a7, a8, a9, a10, rfl⟩
      obtain ⟨q', b3, b4, b5, b6, b7, b8, b9, b10, e, gq'⟩ := turn_ok 51 gq (some (.d (.list (ns.map .int)))) (some (.d x)) a3 a4 a5 a6 a7 a8 a9 a10
      exact ⟨_, rfl, .nx, _, _, e, q', rfl, gq', _, _, _, _, _, _, _, _, _, rfl⟩)
    (by
      rintro ρ m ⟨q, rfl, gq, _⟩
      exact ⟨rfl, q, rfl⟩)
  have cut : m_law.body = m_law.body.headD .pass :: .for_ (.nm 2) (.rng (.int 3)) turnB :: m_law.body.drop 2 := rfl
  unfold runD
  rw [cut, if_pos ⟨rfl, by simp⟩]
  have s0 : evS C (G 59) (m_law.body.headD .pass) (List.map some [Val.d (.list (ns.map .int))] ++ List.replicate (m_law.n - m_law.ps) none) [] = some (.nx, [some (.d (.list (ns.map .int))), some (.p 0), none, none, none, none, none, none, none, none, none], [some pl]) := by
    simp -implicitDefEqProofs only [m_law, List.headD_cons, evS_setM, evE_callM, evVs_cons, evVs_nil, evE_var, List.map_cons, List.map_nil, List.cons_append, List.nil_append, List.getElem?_cons_zero, Option.bind_some, ep, newL_list, mkM_list]
    rfl
  rw [evSs_cons, s0, Option.bind_some, nxt_nx, evSs_cons, e, Option.bind_some, nxt_nx]
  simp -implicitDefEqProofs [m_law, endD]
end Mu

open PySem PySem.W
open PyProof.Rows
set_option maxHeartbeats 0 in
theorem PySem.Challenge.cw_everyregular_k01_whole_machines_holds : PySem.Challenge.rw_everyregular_k01_whole_machines.Holds := by
  w_on; o_law; k_head
  (case hw => w_witness2)
  k_fill
  refine Mu.law_walk (l := PySem.Challenge.rw_everyregular_k01_whole_machines) (n := 63) (fns := Mu.fns) (cons := Mu.cons) (C := Mu.C) (fs := Mu.fs) (j := 37) (k := 60) rfl (by decide) rfl ⟨rfl, by decide, by decide⟩ (fun w h Y => PySem.W.kIn_of Y) rfl (by decide) ?F (fun ns hl hb => Mu.law_true ns hl)
  case F =>
    intro w mg h KX G
    refine' Mu.all_mk KX G ?a0 ?l0 ?c0 ?k0 ?a1 ?l1 ?c1 ?k1 ?a2 ?l2 ?c2 ?k2 ?a3 ?l3 ?c3 ?k3 ?a4 ?l4 ?c4 ?k4 ?a5 ?l5 ?c5 ?k5 ?a6 ?l6 ?c6 ?k6 ?a7 ?l7 ?c7 ?k7 ?a8 ?l8 ?c8 ?k8 ?a9 ?l9 ?c9 ?k9 ?a10 ?l10 ?c10 ?k10 ?a11 ?l11 ?c11 ?k11 ?a12 ?l12 ?c12 ?k12 ?a13 ?l13 ?c13 ?k13 ?a14 ?l14 ?c14 ?k14 ?a15 ?l15 ?c15 ?k15 ?a16 ?l16 ?c16 ?k16 ?a17 ?l17 ?c17 ?k17 ?a18 ?l18 ?c18 ?k18 ?a19 ?l19 ?c19 ?k19 ?a20 ?l20 ?c20 ?k20 ?a21 ?l21 ?c21 ?k21 ?a22 ?l22 ?c22 ?k22 ?a23 ?l23 ?c23 ?k23 ?a24 ?l24 ?c24 ?k24 ?a25 ?l25 ?c25 ?k25 ?a26 ?l26 ?c26 ?k26 ?a27 ?l27 ?c27 ?k27 ?a28 ?l28 ?c28 ?k28 ?a29 ?l29 ?c29 ?k29 ?a30 ?l30 ?c30 ?k30 ?a31 ?l31 ?c31 ?k31 ?a32 ?l32 ?c32 ?k32 ?a33 ?l33 ?c33 ?k33 ?a34 ?l34 ?c34 ?k34 ?a35 ?l35 ?c35 ?k35 ?a36 ?l36 ?c36 ?k36 ?a37 ?l37 ?c37 ?k37 ?z1 ?z2 ?z3 ?z4 ?z5 ?z6 ?z7 ?z8 ?z9 ?z10 ?z11 ?z12 ?z13 ?z14 ?z15 ?mg0 ?y1 ?mg1
    (case a0 => k_is); (case l0 => k_is); (case c0 => k_is); (case k0 => k_is); (case a1 => k_is); (case l1 => k_is); (case c1 => k_is); (case k1 => k_is); (case a2 => k_is); (case l2 => k_is); (case c2 => k_is); (case k2 => k_is); (case a3 => k_is); (case l3 => k_is); (case c3 => k_is); (case k3 => k_is); (case a4 => k_is); (case l4 => k_is); (case c4 => k_is); (case k4 => k_is); (case a5 => k_is); (case l5 => k_is); (case c5 => k_is); (case k5 => k_is); (case a6 => k_is); (case l6 => k_is); (case c6 => k_is); (case k6 => k_is); (case a7 => k_is); (case l7 => k_is); (case c7 => k_is); (case k7 => k_is); (case a8 => k_is); (case l8 => k_is); (case c8 => k_is); (case k8 => k_is); (case a9 => k_is); (case l9 => k_is); (case c9 => k_is); (case k9 => k_is); (case a10 => k_is); (case l10 => k_is); (case c10 => k_is); (case k10 => k_is); (case a11 => k_is); (case l11 => k_is); (case c11 => k_is); (case k11 => k_is); (case a12 => k_is); (case l12 => k_is); (case c12 => k_is); (case k12 => k_is); (case a13 => k_is); (case l13 => k_is); (case c13 => k_is); (case k13 => k_is); (case a14 => k_is); (case l14 => k_is); (case c14 => k_is); (case k14 => k_is); (case a15 => k_is); (case l15 => k_is); (case c15 => k_is); (case k15 => k_is); (case a16 => k_is); (case l16 => k_is); (case c16 => k_is); (case k16 => k_is); (case a17 => k_is); (case l17 => k_is); (case c17 => k_is); (case k17 => k_is); (case a18 => k_is); (case l18 => k_is); (case c18 => k_is); (case k18 => k_is); (case a19 => k_is); (case l19 => k_is); (case c19 => k_is); (case k19 => k_is); (case a20 => k_is); (case l20 => k_is); (case c20 => k_is); (case k20 => k_is); (case a21 => k_is); (case l21 => k_is); (case c21 => k_is); (case k21 => k_is); (case a22 => k_is); (case l22 => k_is); (case c22 => k_is); (case k22 => k_is); (case a23 => k_is); (case l23 => k_is); (case c23 => k_is); (case k23 => k_is); (case a24 => k_is); (case l24 => k_is); (case c24 => k_is); (case k24 => k_is); (case a25 => k_is); (case l25 => k_is); (case c25 => k_is); (case k25 => k_is); (case a26 => k_is); (case l26 => k_is); (case c26 => k_is); (case k26 => k_is); (case a27 => k_is); (case l27 => k_is); (case c27 => k_is); (case k27 => k_is); (case a28 => k_is); (case l28 => k_is); (case c28 => k_is); (case k28 => k_is); (case a29 => k_is); (case l29 => k_is); (case c29 => k_is); (case k29 => k_is); (case a30 => k_is); (case l30 => k_is); (case c30 => k_is); (case k30 => k_is); (case a31 => k_is); (case l31 => k_is); (case c31 => k_is); (case k31 => k_is); (case a32 => k_is); (case l32 => k_is); (case c32 => k_is); (case k32 => k_is); (case a33 => k_is); (case l33 => k_is); (case c33 => k_is); (case k33 => k_is); (case a34 => k_is); (case l34 => k_is); (case c34 => k_is); (case k34 => k_is); (case a35 => k_is); (case l35 => k_is); (case c35 => k_is); (case k35 => k_is); (case a36 => k_is); (case l36 => k_is); (case c36 => k_is); (case k36 => k_is); (case a37 => k_is); (case l37 => k_is); (case c37 => k_is); (case k37 => k_is); (case z1 => k_is); (case z2 => k_is); (case z3 => k_is); (case z4 => k_is); (case z5 => k_is); (case z6 => k_is); (case z7 => k_is); (case z8 => k_is); (case z9 => k_is); (case z10 => k_is); (case z11 => k_is); (case z12 => k_is); (case z13 => k_is); (case z14 => k_is); (case z15 => k_is); (case mg0 => k_is); (case y1 => k_is); (case mg1 => k_is)

