import PyProof.Rows.All
import Wide.All
import OpenK.AllK
import Wide.FinOn
import PyProof.EqAt
import PyProof.EqKinds
import PyProof.TupleCall
import HandS.ForMost
import HandS.ForExc
import HandS.Walk
import HandS.Zip
import HandS.TupAny
import HandS.TupMul
import HandS.Conv
import HandS.IsInst
import HandS.Wide
import HandS.Deep
import HandS.Small
import HandS.TryMany
import HandS.ExcField
import PyProof.ListMulRoad
import PyProof.FactsAll.tuple_2
import KE.KExcSuper
import HandS.ExcSuper
import HandS.Nested
import HandS.WordsExc
import HandS.Head2
import HandS.HeadEnd
import HandS.HeadHook2
import PySem.Challenge.RW_offerbook_k50_algebra
section
set_option Elab.async false
set_option linter.all false
set_option maxRecDepth 100000
/-! PLCore: pure values, the small language, its interpreter. -/
namespace PL
open PySem

/-- a pure value -/
inductive P where
  | non | bl (b : Bool) | int (i : Int) | str (x : Str) | tup (xs : List P) | lst (xs : List P) | dic (kvs : List (List Int × P)) | scr (xs : List P)

/-- an own exception: its class by number, its fields -/
structure Exn where
  c : Nat
  fs : List P

/-- a result: a value, an own exception, or beyond what is told here -/
inductive Rs (α : Type) where
  | ok (a : α) | exc (e : Exn) | bad
namespace Rs
def bind {α β : Type} : Rs α → (α → Rs β) → Rs β
  | .ok a, f => f a
  | .exc e, _ => .exc e
  | .bad, _ => .bad
@[simp] theorem bind_ok {α β : Type} (a : α) (f : α → Rs β) : (Rs.ok a).bind f = f a := rfl
@[simp] theorem bind_exc {α β : Type} (e : Exn) (f : α → Rs β) : (Rs.exc e : Rs α).bind f = .exc e := rfl
@[simp] theorem bind_bad {α β : Type} (f : α → Rs β) : (Rs.bad : Rs α).bind f = .bad := rfl
def when {α : Type} (c : Bool) (r : Rs α) : Rs α := if c then r else .bad
@[simp] theorem when_true {α : Type} (r : Rs α) : when true r = r := rfl
@[simp] theorem when_false {α : Type} (r : Rs α) : when false r = .bad := rfl
/-- no exception may leave -/
def calm {α : Type} : Rs α → Rs α
  | .ok a => .ok a
  | _ => .bad
@[simp] theorem calm_ok {α : Type} (a : α) : (Rs.ok a).calm = .ok a := rfl
@[simp] theorem calm_exc {α : Type} (e : Exn) : (Rs.exc e : Rs α).calm = .bad := rfl
@[simp] theorem calm_bad {α : Type} : (Rs.bad : Rs α).calm = .bad := rfl
end Rs
open Rs

/-! ### the language -/
inductive BOp | add | sub | mul | fdiv | mod | pow
inductive COp | eq | ne | lt | le | gt | ge | isn | notn | inn | nin
/-- built-in functions -/
inductive Blt | len | tuple | list | int | isInt | isBool | isStr | isTuple | isList | min2 | max2 | min1 | max1 | sum | all | any | abs | str

/-- targets -/
inductive Tg | v (i : Nat) | pr (a b : Tg) | tr (a b c : Tg) | qd (a b c d : Tg)

mutual
inductive IE where
  | v (i : Nat)
  | c (p : P)
  | g (k : Nat)
  | bin (o : BOp) (a b : IE)
  | neg (a : IE)
  | not (a : IE)
  | cmp (o : COp) (a b : IE)
  | chain (o o' : COp) (a b c : IE)
  | band (es : IEs)
  | bor (es : IEs)
  | ite (c a b : IE)
  | tup (es : IEs)
  | lst (es : IEs)
  | sub (a i : IE)
  | subv (i : Nat) (x : IE)
  | lenv (i : Nat)
  | inv (neg : Bool) (a : IE) (i : Nat)
  | lrng (it : II)
  | slc (a : IE) (lo hi : IEo)
  | call (f : Nat) (es : IEs)
  | blt (f : Blt) (es : IEs)
  | comp (e : IE) (t : Tg) (own : List Nat) (it : II) (c : IEo)
  | comp2 (e : IE) (t : Tg) (own : List Nat) (it : II) (t2 : Tg) (own2 : List Nat) (it2 : II) (c : IEo)
inductive IEs where
  | nil | cons (e : IE) (r : IEs)
inductive IEo where
  | no | so (e : IE)
inductive II where
  | seq (e : IE) | rng1 (a : IE) | rng2 (a b : IE) | rng3 (a b c : IE) | zip (a b : IE) | enum (a : IE)
end

mutual
inductive IS where
  | set (i : Nat) (e : IE)
  | new (i : Nat) (e : IE)
  | bind (t : Tg) (e : IE)
  | ret (e : IE)
  | eff (e : IE)
  | ite (c : IE) (a b : ISs)
  | for_ (t : Tg) (it : II) (kill : List Nat) (body : ISs)
  | whl (c : IE) (kill : List Nat) (body : ISs)
  | app (i : Nat) (e : IE)
  | ext (i : Nat) (e : IE)
  | put (i : Nat) (x e : IE)
  | inc (i : Nat) (e : IE)
  | raise (c : Nat) (es : IEs)
  | frz (i : Nat)
  | tryE (body : ISs) (hs : IHs)
  | pass
inductive ISs where
  | nil | cons (s : IS) (r : ISs)
/-- clauses «except C as e: return (..)»: the class, the slot, what is returned (a field of e is .fld) -/
inductive IHs where
  | nil | cons (c : Nat) (i : Nat) (e : HE) (r : IHs)
/-- what a suite may return: constants, fields of the exception, tuples -/
inductive HE where
  | c (p : P) | fld (k : Nat) | tup (es : HEs)
inductive HEs where
  | nil | cons (e : HE) (r : HEs)
end

/-! ### slots -/
inductive Sl where
  | un | fz (p : P) | ow (xs : List P) | od (kvs : List (List Int × P))
abbrev Ev := List Sl

/-! ### operators -/
-- deep equality
mutual
def eqv : P → P → Bool
  | .non, .non => true
  | .bl a, .bl b => a == b
  | .bl a, .int j => (if a then 1 else 0) == j
  | .int i, .bl b => i == (if b then 1 else 0)
  | .int i, .int j => i == j
  | .str x, .str y => x == y
  | .lst xs, .lst ys => eqvs xs ys
  | .tup xs, .tup ys => eqvs xs ys
  | _, _ => false
def eqvs : List P → List P → Bool
  | [], [] => true
  | x :: xs, y :: ys => eqv x y && eqvs xs ys
  | _, _ => false
end
-- may be compared: no dict within, texts of a size, not too deep (d: how deep it may be)
mutual
def shp : Nat → P → Bool
  | _, .non => true
  | _, .bl _ => true
  | _, .int _ => true
  | _, .str x => PyData.strOk x
  | d + 1, .lst xs => shps d xs
  | d + 1, .tup xs => shps d xs
  | _, _ => false
def shps : Nat → List P → Bool
  | _, [] => true
  | d, x :: xs => shp d x && shps d xs
end
def shaped (p : P) : Bool := shp 60 p
/-- a value without parts -/
def flat : P → Bool
  | .non => true | .bl _ => true | .int _ => true | .str _ => true | _ => false

abbrev big : Nat := 16777216
def mulOk (i j : Int) : Bool := decide (i.natAbs < 2 ^ 64) || decide (j.natAbs < 2 ^ 64) || decide (i.natAbs.log2 + j.natAbs.log2 < 1000000)
def binP : BOp → P → P → Rs P
  | .add, .int i, .int j => .ok (.int (i + j))
  | .add, .str x, .str y => when (decide (x.length + y.length ≤ big)) (.ok (.str (x ++ y)))
  | .add, .tup xs, .tup ys => when (decide (xs.length + ys.length ≤ big)) (.ok (.tup (xs ++ ys)))
  | .add, .lst xs, .lst ys => when (decide (xs.length + ys.length ≤ big)) (.ok (.lst (xs ++ ys)))
  | .sub, .int i, .int j => .ok (.int (i - j))
  | .mul, .int i, .int j => when (mulOk i j) (.ok (.int (i * j)))
  | .mul, .tup xs, .int k => when (decide (0 ≤ k ∧ k ≤ 1000 ∧ xs.length ≤ 1000 ∧ 0 < xs.length)) (.ok (.tup (List.replicate k.toNat xs).flatten))
  | .mul, .lst xs, .int k => when (decide (0 ≤ k ∧ k ≤ 1000 ∧ xs.length ≤ 1000)) (.ok (.lst (List.replicate k.toNat xs).flatten))
  | .fdiv, .int i, .int j => when (decide (0 < j) && decide (j.natAbs.log2 < 9000)) (.ok (.int (i / j)))
  | .mod, .int i, .int j => when (decide (0 < j)) (.ok (.int (i % j)))
  | .pow, .int i, .int j => when (decide (i = 10) && decide (0 ≤ j) && decide (j ≤ 60)) (.ok (.int (i ^ j.toNat)))
  | _, _, _ => .bad
def inP (x : P) : P → Rs Bool
  | .lst ys => when (shaped x && shps 59 ys) (.ok (ys.any fun y => eqv y x))
  | .tup ys => when (flat x && ys.all flat) (.ok (ys.any fun y => eqv y x))
  | .str z => match x with
    | .str y => match y.cps.toList with | [c] => .ok (decide (c ∈ z.cps.toList)) | _ => .bad
    | _ => .bad
  | _ => .bad
def eqOk : P → P → Bool
  | .str _, .str _ => true
  | a, b => shaped a && shaped b
def cmpP : COp → P → P → Rs Bool
  | .eq, a, b => when (eqOk a b) (.ok (eqv a b))
  | .ne, a, b => when (eqOk a b) (.ok (!eqv a b))
  | .lt, .int i, .int j => .ok (decide (i < j))
  | .le, .int i, .int j => .ok (decide (i ≤ j))
  | .gt, .int i, .int j => .ok (decide (j < i))
  | .ge, .int i, .int j => .ok (decide (j ≤ i))
  | .isn, a, .non => .ok (match a with | .non => true | _ => false)
  | .notn, a, .non => .ok (match a with | .non => false | _ => true)
  | .inn, a, b => inP a b
  | .nin, a, b => (inP a b).bind fun r => .ok (!r)
  | _, _, _ => .bad
def asB : P → Rs Bool
  | .bl b => .ok b
  | _ => .bad
/-- the place that an index names -/
def ixN (n : Nat) (i : Int) : Option Nat := if 0 ≤ i then (if i < n then some i.toNat else none) else if -(n : Int) ≤ i then some (i + n).toNat else none
def atL (xs : List P) (i : Int) : Rs P := match (ixN xs.length i).bind fun j => xs[j]? with | some v => .ok v | none => .bad
def dget (kvs : List (List Int × P)) (k : List Int) : Rs P := match kvs.find? (fun kv => decide (kv.1 = k)) with | some kv => .ok kv.2 | none => .bad
def dput (kvs : List (List Int × P)) (k : List Int) (v : P) : List (List Int × P) :=
  if kvs.any (fun kv => decide (kv.1 = k)) then kvs.map (fun kv => if kv.1 = k then (k, v) else kv) else kvs ++ [(k, v)]
def intsL : List P → Option (List Int)
  | [] => some []
  | .int i :: r => (intsL r).map (i :: ·)
  | _ => none
def boolsL : List P → Option (List Bool)
  | [] => some []
  | .bl i :: r => (boolsL r).map (i :: ·)
  | _ => none
def subP : P → P → Rs P
  | .tup xs, .int i => atL xs i
  | .lst xs, .int i => atL xs i
  | .scr xs, .int i => atL xs i
  | .dic kvs, .tup ks => match intsL ks with | some k => dget kvs k | none => .bad
  | .str x, .int i => when (decide (x.length ≤ big)) (match (ixN x.cps.toList.length i).bind fun j => x.cps.toList[j]? with | some c => .ok (.str ⟨#[c]⟩) | none => .bad)
  | _, _ => .bad
/-- where a slice's bound falls -/
def sIx (n dflt : Nat) : Option Int → Nat
  | none => dflt
  | some i => if i < 0 then (if i + n < 0 then 0 else (i + n).toNat) else min i.toNat n
def cut {α : Type} (xs : List α) (lo hi : Option Int) : List α := (xs.drop (sIx xs.length 0 lo)).take (sIx xs.length xs.length hi - sIx xs.length 0 lo)
def slcP (lo hi : Option Int) : P → Rs P
  | .tup xs => .ok (.tup (cut xs lo hi))
  | .lst xs => .ok (.lst (cut xs lo hi))
  | _ => .bad
def asI : P → Rs Int
  | .int i => .ok i
  | _ => .bad
def asS : P → Rs (List P)
  | .tup xs => .ok xs
  | .lst xs => .ok xs
  | _ => .bad
def maxL : List Int → Option Int
  | [] => none
  | x :: r => some (r.foldl max x)
def minL : List Int → Option Int
  | [] => none
  | x :: r => some (r.foldl min x)
def bltP : Blt → List P → Rs P
  | .len, [.tup xs] => .ok (.int xs.length)
  | .len, [.lst xs] => .ok (.int xs.length)
  | .len, [.scr xs] => .ok (.int xs.length)
  | .len, [.str x] => when (decide (x.length ≤ big)) (.ok (.int x.length))
  | .tuple, [.lst xs] => .ok (.tup xs)
  | .tuple, [.tup xs] => .ok (.tup xs)
  | .list, [.lst xs] => .ok (.lst xs)
  | .list, [.tup xs] => .ok (.lst xs)
  | .int, [.int i] => .ok (.int i)
  | .int, [.bl b] => .ok (.int (if b then 1 else 0))
  | .isInt, [p] => .ok (.bl (match p with | .int _ => true | .bl _ => true | _ => false))
  | .isBool, [p] => .ok (.bl (match p with | .bl _ => true | _ => false))
  | .isStr, [p] => .ok (.bl (match p with | .str _ => true | _ => false))
  | .isTuple, [p] => .ok (.bl (match p with | .tup _ => true | _ => false))
  | .isList, [p] => .ok (.bl (match p with | .lst _ => true | .scr _ => true | _ => false))
  | .min2, [.int i, .int j] => .ok (.int (min i j))
  | .max2, [.int i, .int j] => .ok (.int (max i j))
  | .max1, [p] => (asS p).bind fun xs => match (intsL xs).bind maxL with | some m => .ok (.int m) | none => .bad
  | .min1, [p] => (asS p).bind fun xs => match (intsL xs).bind minL with | some m => .ok (.int m) | none => .bad
  | .sum, [p] => (asS p).bind fun xs => match intsL xs with | some ns => .ok (.int ns.sum) | none => .bad
  | .all, [.lst xs] => match boolsL xs with | some bs => .ok (.bl (bs.all id)) | none => .bad
  | .any, [.lst xs] => match boolsL xs with | some bs => .ok (.bl (bs.any id)) | none => .bad
  | .abs, [.int i] => .ok (.int (if i < 0 then -i else i))
  | _, _ => .bad

/-! ### slots, targets -/
def getS (ρ : Ev) (i : Nat) : Rs P := match ρ[i]? with | some (.fz p) => .ok p | _ => .bad
def wipeS : List Nat → Ev → Ev
  | [], ρ => ρ
  | k :: ks, ρ => (wipeS ks ρ).set k .un
def bindT : Tg → P → Ev → Rs Ev
  | .v i, p, ρ => when (decide (i < ρ.length)) (.ok (ρ.set i (.fz p)))
  | .pr a b, .tup [x, y], ρ => (bindT a x ρ).bind fun ρ => bindT b y ρ
  | .tr a b c, .tup [x, y, z], ρ => (bindT a x ρ).bind fun ρ => (bindT b y ρ).bind fun ρ => bindT c z ρ
  | .qd a b c d, .tup [x, y, z, u], ρ => (bindT a x ρ).bind fun ρ => (bindT b y ρ).bind fun ρ => (bindT c z ρ).bind fun ρ => bindT d u ρ
  | _, _, _ => .bad
/-- the items of a comprehension -/
def compP (f : P → Rs (Option P)) : List P → Rs (List P)
  | [] => .ok []
  | x :: r => (f x).calm.bind fun o => (compP f r).bind fun ys => .ok (match o with | some y => y :: ys | none => ys)
/-- of two clauses -/
def compP2 (f : P → Rs (List P)) : List P → Rs (List P)
  | [] => .ok []
  | x :: r => (f x).calm.bind fun a => (compP2 f r).bind fun ys => .ok (a ++ ys)
def zipP : P → P → Rs (List P)
  | .tup xs, .tup ys => when (decide (xs.length ≤ big)) (.ok ((xs.zip ys).map fun p => .tup [p.1, p.2]))
  | .lst xs, .lst ys => when (decide (xs.length ≤ big)) (.ok ((xs.zip ys).map fun p => .tup [p.1, p.2]))
  | _, _ => .bad
def enumP : P → Rs (List P)
  | .lst xs => when (decide (xs.length ≤ big)) (.ok ((xs.zipIdx).map fun p => .tup [.int p.2, p.1]))
  | _ => .bad
def rngL (lo : Int) (n : Nat) (c : Int) : List P := (List.range n).map fun i => .int (lo + (i : Nat) * c)
def rngOk (i : Int) : Bool := decide (-(2 ^ 62) ≤ i) && decide (i < 2 ^ 62)

section
variable (Γ : Nat → List P → Rs P) (G : Nat → P)
mutual
def ev : IE → Ev → Rs P
  | .v i, ρ => getS ρ i
  | .c p, _ => .ok p
  | .g k, _ => .ok (G k)
  | .bin o a b, ρ => (ev a ρ).bind fun x => (ev b ρ).bind fun y => binP o x y
  | .neg a, ρ => (ev a ρ).bind fun x => (asI x).bind fun i => .ok (.int (-i))
  | .not a, ρ => (ev a ρ).bind fun x => (asB x).bind fun b => .ok (.bl (!b))
  | .cmp o a b, ρ => (ev a ρ).bind fun x => (ev b ρ).bind fun y => (cmpP o x y).bind fun b => .ok (.bl b)
  | .chain o o' a b c, ρ => (ev a ρ).bind fun x => (ev b ρ).bind fun y => (cmpP o x y).bind fun k => if k then (ev c ρ).bind fun z => (cmpP o' y z).bind fun b => .ok (.bl b) else .ok (.bl false)
  | .band es, ρ => evAnd es ρ
  | .bor es, ρ => evOr es ρ
  | .ite c a b, ρ => (ev c ρ).bind fun x => (asB x).bind fun k => if k then ev a ρ else ev b ρ
  | .tup es, ρ => (evs es ρ).bind fun xs => .ok (.tup xs)
  | .lst es, ρ => (evs es ρ).bind fun xs => .ok (.lst xs)
  | .sub a i, ρ => (ev a ρ).bind fun x => (ev i ρ).bind fun y => subP x y
  | .subv i x, ρ => match ρ[i]? with
    | some (.fz p) => (ev x ρ).bind fun y => subP p y
    | some (.ow xs) => (ev x ρ).bind fun y => subP (.lst xs) y
    | some (.od kvs) => (ev x ρ).bind fun y => subP (.dic kvs) y
    | _ => .bad
  | .lenv i, ρ => match ρ[i]? with
    | some (.fz p) => bltP .len [p]
    | some (.ow xs) => .ok (.int xs.length)
    | _ => .bad
  | .inv neg a i, ρ => (ev a ρ).bind fun x => match ρ[i]? with
    | some (.fz p) => (inP x p).bind fun b => .ok (.bl (if neg then !b else b))
    | some (.ow xs) => (inP x (.lst xs)).bind fun b => .ok (.bl (if neg then !b else b))
    | _ => .bad
  | .lrng it, ρ => (evi it ρ).bind fun xs => .ok (.lst xs)
  | .slc a lo hi, ρ => (ev a ρ).bind fun x => (evo lo ρ).bind fun l => (evo hi ρ).bind fun h => slcP l h x
  | .call f es, ρ => (evs es ρ).bind fun xs => Γ f xs
  | .blt f es, ρ => (evs es ρ).bind fun xs => bltP f xs
  | .comp e t own it c, ρ => (evi it ρ).bind fun xs => (compP (fun x => (bindT t x (wipeS own ρ)).bind fun ρ1 => (evc c ρ1).bind fun k => if k then (ev e ρ1).bind fun y => .ok (some y) else .ok none) xs).bind fun ys => .ok (.lst ys)
  | .comp2 e t own it t2 own2 it2 c, ρ => (evi it ρ).bind fun xs => (compP2 (fun x => (bindT t x (wipeS own ρ)).bind fun ρ1 => (evi it2 ρ1).bind fun xs2 =>
      compP (fun x2 => (bindT t2 x2 (wipeS own2 ρ1)).bind fun ρ2 => (evc c ρ2).bind fun k => if k then (ev e ρ2).bind fun y => .ok (some y) else .ok none) xs2) xs).bind fun ys => when (decide (ys.length ≤ big)) (.ok (.lst ys))
def evs : IEs → Ev → Rs (List P)
  | .nil, _ => .ok []
  | .cons e r, ρ => (ev e ρ).bind fun x => (evs r ρ).bind fun xs => .ok (x :: xs)
def evAnd : IEs → Ev → Rs P
  | .nil, _ => .bad
  | .cons e .nil, ρ => (ev e ρ).bind fun x => (asB x).bind fun b => .ok (.bl b)
  | .cons e (.cons e' r), ρ => (ev e ρ).bind fun x => (asB x).bind fun b => if b then evAnd (.cons e' r) ρ else .ok (.bl false)
def evOr : IEs → Ev → Rs P
  | .nil, _ => .bad
  | .cons e .nil, ρ => (ev e ρ).bind fun x => (asB x).bind fun b => .ok (.bl b)
  | .cons e (.cons e' r), ρ => (ev e ρ).bind fun x => (asB x).bind fun b => if b then .ok (.bl true) else evOr (.cons e' r) ρ
/-- a bound of a slice -/
def evo : IEo → Ev → Rs (Option Int)
  | .no, _ => .ok none
  | .so e, ρ => (ev e ρ).bind fun x => (asI x).bind fun i => .ok (some i)
/-- the test of a comprehension -/
def evc : IEo → Ev → Rs Bool
  | .no, _ => .ok true
  | .so e, ρ => (ev e ρ).bind asB
def evi : II → Ev → Rs (List P)
  | .seq e, ρ => (ev e ρ).bind asS
  | .rng1 a, ρ => (ev a ρ).bind fun x => (asI x).bind fun j => when (rngOk j && decide (j ≤ big)) (.ok (rngL 0 j.toNat 1))
  | .rng2 a b, ρ => (ev a ρ).bind fun x => (ev b ρ).bind fun y => (asI x).bind fun i => (asI y).bind fun j => when (rngOk i && rngOk j && decide (j - i ≤ big)) (.ok (rngL i (j - i).toNat 1))
  | .rng3 a b c, ρ => (ev a ρ).bind fun x => (ev b ρ).bind fun y => (ev c ρ).bind fun z => (asI x).bind fun i => (asI y).bind fun j => (asI z).bind fun k =>
      when (rngOk i && rngOk j && decide (k = -1) && decide (i - j ≤ big)) (.ok (rngL i (i - j).toNat (-1)))
  | .zip a b, ρ => (ev a ρ).bind fun x => (ev b ρ).bind fun y => zipP x y
  | .enum a, ρ => (ev a ρ).bind fun x => enumP x
end
end

/-! ### statements -/
inductive Out where
  | nx (ρ : Ev) | rt (p : P)
def seqO (r : Rs Out) (f : Ev → Rs Out) : Rs Out := r.bind fun o => match o with | .nx ρ => f ρ | .rt p => .ok (.rt p)
@[simp] theorem seqO_nx (ρ : Ev) (f : Ev → Rs Out) : seqO (.ok (.nx ρ)) f = f ρ := rfl
@[simp] theorem seqO_rt (p : P) (f : Ev → Rs Out) : seqO (.ok (.rt p)) f = .ok (.rt p) := rfl
@[simp] theorem seqO_exc (e : Exn) (f : Ev → Rs Out) : seqO (.exc e) f = .exc e := rfl
@[simp] theorem seqO_bad (f : Ev → Rs Out) : seqO .bad f = .bad := rfl
def forP (step : P → Ev → Rs Out) : List P → Ev → Rs Out
  | [], ρ => .ok (.nx ρ)
  | x :: xs, ρ => seqO (step x ρ) fun ρ' => forP step xs ρ'
/-- n: how many turns at most -/
def whlP (c : Ev → Rs Bool) (body : Ev → Rs Out) : Nat → Ev → Rs Out
  | 0, _ => .bad
  | n + 1, ρ => (c ρ).bind fun k => if k then seqO (body ρ) fun ρ' => whlP c body n ρ' else .ok (.nx ρ)
def freezeS : Sl → Sl
  | .ow xs => .fz (.lst xs)
  | .od kvs => .fz (.dic kvs)
  | s => s
def newS : P → Rs Sl
  | .lst xs => .ok (.ow xs)
  | .dic kvs => .ok (.od kvs)
  | _ => .bad
def frzS (ρ : Ev) (i : Nat) : Ev := match ρ[i]? with | some s => ρ.set i (freezeS s) | none => ρ
def putS (ρ : Ev) (i : Nat) (k v : P) : Rs Ev := match ρ[i]? with
  | some (.ow xs) => (asI k).bind fun n => match ixN xs.length n with | some j => .ok (ρ.set i (.ow (xs.set j v))) | none => .bad
  | some (.od kvs) => match k with
    | .tup ks => match intsL ks with | some q => when (decide (kvs.length < big)) (.ok (ρ.set i (.od (dput kvs q v)))) | none => .bad
    | _ => .bad
  | _ => .bad
def appS (ρ : Ev) (i : Nat) (v : P) : Rs Ev := match ρ[i]? with
  | some (.ow xs) => when (decide (xs.length < big)) (.ok (ρ.set i (.ow (xs ++ [v]))))
  | _ => .bad
def extS (ρ : Ev) (i : Nat) (v : P) : Rs Ev := match ρ[i]?, v with
  | some (.ow xs), .lst ys => when (decide (xs.length + ys.length ≤ big)) (.ok (ρ.set i (.ow (xs ++ ys))))
  | _, _ => .bad
def incP : P → P → Rs P
  | .int a, .int b => .ok (.int (a + b))
  | _, _ => .bad
/-- a held list -/
def owB (ρ : Ev) (i : Nat) : Bool := match ρ[i]? with | some (.ow _) => true | _ => false
/-- held -/
def hdB (ρ : Ev) (i : Nat) : Bool := match ρ[i]? with | some (.ow _) => true | some (.od _) => true | _ => false
-- what a suite returns, of the exception x
mutual
def evH (x : Exn) : HE → Rs P
  | .c p => .ok p
  | .fld k => match x.fs[k]? with | some v => .ok v | none => .bad
  | .tup es => (evHs x es).bind fun xs => .ok (.tup xs)
def evHs (x : Exn) : HEs → Rs (List P)
  | .nil => .ok []
  | .cons e r => (evH x e).bind fun y => (evHs x r).bind fun ys => .ok (y :: ys)
end
def catch_ (x : Exn) : IHs → Rs Out
  | .nil => .exc x
  | .cons c _ e r => if x.c = c then (evH x e).bind fun p => .ok (.rt p) else catch_ x r
section
variable (Γ : Nat → List P → Rs P) (G : Nat → P)
mutual
def ex : IS → Ev → Rs Out
  | .set i e, ρ => (ev Γ G e ρ).bind fun x => when (decide (i < ρ.length)) (.ok (.nx (ρ.set i (.fz x))))
  | .new i e, ρ => (ev Γ G e ρ).bind fun x => (newS x).bind fun s => when (decide (i < ρ.length)) (.ok (.nx (ρ.set i s)))
  | .bind t e, ρ => (ev Γ G e ρ).bind fun x => (bindT t x ρ).bind fun ρ' => .ok (.nx ρ')
  | .ret e, ρ => (ev Γ G e ρ).bind fun x => .ok (.rt x)
  | .eff e, ρ => (ev Γ G e ρ).bind fun _ => .ok (.nx ρ)
  | .ite c a b, ρ => (ev Γ G c ρ).bind fun x => (asB x).bind fun k => if k then exs a ρ else exs b ρ
  | .for_ t it kill body, ρ => (evi Γ G it ρ).bind fun xs => seqO (forP (fun x ρ => seqO ((bindT t x ρ).bind fun ρ1 => exs body ρ1) fun ρ2 => .ok (.nx (wipeS kill ρ2))) xs (wipeS kill ρ)) fun ρ' => .ok (.nx ρ')
  | .whl c kill body, ρ => whlP (fun ρ => (ev Γ G c ρ).bind asB) (fun ρ => seqO (exs body ρ) fun ρ2 => .ok (.nx (wipeS kill ρ2))) big (wipeS kill ρ)
  | .app i e, ρ => when (owB ρ i) ((ev Γ G e ρ).bind fun x => (appS ρ i x).bind fun ρ' => .ok (.nx ρ'))
  | .ext i e, ρ => when (owB ρ i) ((ev Γ G e ρ).bind fun x => (extS ρ i x).bind fun ρ' => .ok (.nx ρ'))
  | .put i k e, ρ => (ev Γ G e ρ).bind fun x => when (hdB ρ i) ((ev Γ G k ρ).bind fun y => (putS ρ i y x).bind fun ρ' => .ok (.nx ρ'))
  | .inc i e, ρ => (getS ρ i).bind fun y => (ev Γ G e ρ).bind fun x => (incP y x).bind fun z => .ok (.nx (ρ.set i (.fz z)))
  | .raise c es, ρ => (evs Γ G es ρ).bind fun xs => .exc ⟨c, xs⟩
  | .frz i, ρ => .ok (.nx (frzS ρ i))
  | .tryE body hs, ρ => match exs body ρ with | .exc x => catch_ x hs | r => r
  | .pass, ρ => .ok (.nx ρ)
def exs : ISs → Ev → Rs Out
  | .nil, ρ => .ok (.nx ρ)
  | .cons s r, ρ => seqO (ex s ρ) fun ρ' => exs r ρ'
end
end
/-- a def: how many slots it has, how many of them are parameters, its body -/
structure Fn where
  n : Nat
  ps : Nat
  body : ISs
def start (f : Fn) (xs : List P) : Ev := xs.map .fz ++ List.replicate (f.n - xs.length) .un
def fin (o : Out) : P := match o with | .nx _ => .non | .rt p => p
def run (Γ : Nat → List P → Rs P) (G : Nat → P) (f : Fn) (xs : List P) : Rs P :=
  when (decide (xs.length = f.ps) && decide (f.ps ≤ f.n)) ((exs Γ G f.body (start f xs)).bind fun o => .ok (fin o))
/-- the call of the f-th def, at most n deep -/
def callF (D : Nat → Option Fn) (G : Nat → P) : Nat → Nat → List P → Rs P
  | 0, _, _ => .bad
  | n + 1, f, xs => match D f with | some d => run (callF D G n) G d xs | none => .bad
end PL
end

section
set_option Elab.async false
set_option linter.all false
set_option maxRecDepth 100000
set_option maxHeartbeats 1000000
/-! PLRep: how a pure value lies in the heap; the language's text against the program's. -/
namespace PL
open PySem PySem.Spec
open PyProof.Rows
open L2 hiding start
abbrev Frg := PySem.W.Frag

/-- a list of the written part -/
def KLst (K : Frg) (a : Addr) (xs : List V) : Prop :=
  ∃ (o : Obj) (its : Array Value) (n : Nat), K.lookup a = some o ∧ o.cls = .type "list" ∧ o.dict = none ∧ o.data = .seq its n ∧ its.size ≤ sizeLine ∧ Vals xs its.toList
mutual
inductive Rep (K : Frg) (Z : Addr → Prop) (H : Hp) : V → P → Prop
  | non : Rep K Z H .non .non
  | bl (b : Bool) : Rep K Z H (.bl b) (.bl b)
  | int (i : Int) : Rep K Z H (.int i) (.int i)
  | str (x : Str) : Rep K Z H (.str x) (.str x)
  | tup {a : Addr} {vs : List V} {ps : List P} : ¬ Z a → H a = some (.tup vs) → Reps K Z H vs ps → Rep K Z H (.ref a) (.tup ps)
  | lst {a : Addr} {vs : List V} {ps : List P} : ¬ Z a → H a = some (.lst vs) → Reps K Z H vs ps → Rep K Z H (.ref a) (.lst ps)
  | scr {a : Addr} {vs : List V} {ps : List P} : ¬ Z a → Rd H a (.lst vs) → Reps K Z H vs ps → Rep K Z H (.ref a) (.scr ps)
  | kls {a : Addr} {vs : List V} {ps : List P} : KLst K a vs → Reps K Z H vs ps → Rep K Z H (.ref a) (.scr ps)
  | dic {a : Addr} {ds : List (List Key × V)} {kvs : List (List Int × P)} : ¬ Z a → H a = some (.dT ds) → RepD K Z H ds kvs → Rep K Z H (.ref a) (.dic kvs)
inductive Reps (K : Frg) (Z : Addr → Prop) (H : Hp) : List V → List P → Prop
  | nil : Reps K Z H [] []
  | cons {v : V} {vs : List V} {p : P} {ps : List P} : Rep K Z H v p → Reps K Z H vs ps → Reps K Z H (v :: vs) (p :: ps)
inductive RepD (K : Frg) (Z : Addr → Prop) (H : Hp) : List (List Key × V) → List (List Int × P) → Prop
  | nil : RepD K Z H [] []
  | cons {v : V} {k : List Int} {ds : List (List Key × V)} {p : P} {kvs : List (List Int × P)} : Rep K Z H v p → RepD K Z H ds kvs → RepD K Z H ((k.map Sum.inl, v) :: ds) ((k, p) :: kvs)
end

section
variable {K : Frg} {Z Z' : Addr → Prop} {H H' : Hp}
/-- what of the heap a representation leans on -/
def Keep (Z : Addr → Prop) (H H' : Hp) : Prop := ∀ a o, ¬ Z a → H a = some o → H' a = some o
theorem Keep.rd {a : Addr} {u : HO} (k : Keep Z H H') (h : ¬ Z a) (r : Rd H a u) : Rd H' a u := by
  rcases r with r | ⟨o, r⟩
  · exact .inl (k _ _ h r)
  · exact .inr ⟨o, k _ _ h r⟩
mutual
theorem Rep.keep (k : Keep Z H H') (z : ∀ a, Z' a → Z a ∨ H a = none) : ∀ {v : V} {p : P}, Rep K Z H v p → Rep K Z' H' v p
  | _, _, .non => .non
  | _, _, .bl b => .bl b
  | _, _, .int i => .int i
  | _, _, .str x => .str x
  | _, _, .tup h1 h2 h3 => .tup (fun q => (z _ q).elim h1 fun e => by rw [h2] at e; cases e) (k _ _ h1 h2) (Reps.keep k z h3)
  | _, _, .lst h1 h2 h3 => .lst (fun q => (z _ q).elim h1 fun e => by rw [h2] at e; cases e) (k _ _ h1 h2) (Reps.keep k z h3)
  | _, _, .scr h1 h2 h3 => .scr (fun q => (z _ q).elim h1 fun e => by rcases h2 with r | ⟨o, r⟩ <;> (rw [r] at e; cases e)) (k.rd h1 h2) (Reps.keep k z h3)
  | _, _, .kls h2 h3 => .kls h2 (Reps.keep k z h3)
  | _, _, .dic h1 h2 h3 => .dic (fun q => (z _ q).elim h1 fun e => by rw [h2] at e; cases e) (k _ _ h1 h2) (RepD.keep k z h3)
theorem Reps.keep (k : Keep Z H H') (z : ∀ a, Z' a → Z a ∨ H a = none) : ∀ {v : List V} {p : List P}, Reps K Z H v p → Reps K Z' H' v p
  | _, _, .nil => .nil
  | _, _, .cons h1 h2 => .cons (Rep.keep k z h1) (Reps.keep k z h2)
theorem RepD.keep (k : Keep Z H H') (z : ∀ a, Z' a → Z a ∨ H a = none) : ∀ {v : List (List Key × V)} {p : List (List Int × P)}, RepD K Z H v p → RepD K Z' H' v p
  | _, _, .nil => .nil
  | _, _, .cons h1 h2 => .cons (Rep.keep k z h1) (RepD.keep k z h2)
end
theorem same_kp (s : Same H H') : Keep Z H H' := fun a o _ h => s a o h
theorem Rep.same (s : Same H H') {v : V} {p : P} (r : Rep K Z H v p) : Rep K Z H' v p := r.keep (same_kp s) fun _ h => .inl h
theorem Reps.same (s : Same H H') {v : List V} {p : List P} (r : Reps K Z H v p) : Reps K Z H' v p := r.keep (same_kp s) fun _ h => .inl h
theorem RepD.same (s : Same H H') {v : List (List Key × V)} {p : List (List Int × P)} (r : RepD K Z H v p) : RepD K Z H' v p := r.keep (same_kp s) fun _ h => .inl h
theorem Reps.length : ∀ {vs : List V} {ps : List P}, Reps K Z H vs ps → vs.length = ps.length
  | _, _, .nil => rfl
  | _, _, .cons _ t => congrArg (· + 1) t.length
theorem Reps.append : ∀ {vs ws : List V} {ps qs : List P}, Reps K Z H vs ps → Reps K Z H ws qs → Reps K Z H (vs ++ ws) (ps ++ qs)
  | _, _, _, _, .nil, s => s
  | _, _, _, _, .cons r t, s => .cons r (t.append s)
theorem Reps.get : ∀ {vs : List V} {ps : List P} {i : Nat} {p : P}, Reps K Z H vs ps → ps[i]? = some p → ∃ v, vs[i]? = some v ∧ Rep K Z H v p
  | _, _, _, _, .nil, e => by simp at e
  | _, _, 0, _, .cons r _, e => by simp at e; subst e; exact ⟨_, rfl, r⟩
  | _, _, i + 1, _, .cons _ t, e => by
    obtain ⟨v, h1, h2⟩ := Reps.get (i := i) t (by simpa using e)
    exact ⟨v, by simpa using h1, h2⟩
theorem Reps.get' : ∀ {vs : List V} {ps : List P} {i : Nat} {v : V}, Reps K Z H vs ps → vs[i]? = some v → ∃ p, ps[i]? = some p ∧ Rep K Z H v p
  | _, _, _, _, .nil, e => by simp at e
  | _, _, 0, _, .cons r _, e => by simp at e; subst e; exact ⟨_, rfl, r⟩
  | _, _, i + 1, _, .cons _ t, e => by
    obtain ⟨v, h1, h2⟩ := Reps.get' (i := i) t (by simpa using e)
    exact ⟨v, by simpa using h1, h2⟩
theorem Reps.drop : ∀ {vs : List V} {ps : List P} (n : Nat), Reps K Z H vs ps → Reps K Z H (vs.drop n) (ps.drop n)
  | _, _, 0, r => r
  | _, _, _ + 1, .nil => .nil
  | _, _, n + 1, .cons _ t => t.drop n
theorem Reps.take : ∀ {vs : List V} {ps : List P} (n : Nat), Reps K Z H vs ps → Reps K Z H (vs.take n) (ps.take n)
  | _, _, 0, _ => .nil
  | _, _, _ + 1, .nil => .nil
  | _, _, n + 1, .cons r t => .cons r (t.take n)
theorem Reps.set {v : V} {p : P} (r : Rep K Z H v p) : ∀ {vs : List V} {ps : List P} (n : Nat), Reps K Z H vs ps → Reps K Z H (vs.set n v) (ps.set n p)
  | _, _, _, .nil => .nil
  | _, _, 0, .cons _ t => .cons r t
  | _, _, n + 1, .cons q t => .cons q (Reps.set r n t)
theorem Reps.flat {vs : List V} {ps : List P} (r : Reps K Z H vs ps) : ∀ n : Nat, Reps K Z H (List.replicate n vs).flatten (List.replicate n ps).flatten
  | 0 => .nil
  | n + 1 => by
    rw [List.replicate_succ, List.replicate_succ, List.flatten_cons, List.flatten_cons]
    exact r.append (r.flat n)
/-- a sequence is read -/
theorem Rep.seqT {v : V} {ps : List P} (r : Rep K Z H v (.tup ps)) : ∃ a vs, v = .ref a ∧ SqT K H a vs ∧ Reps K Z H vs ps := by
  cases r with
  | tup h1 h2 h3 => exact ⟨_, _, rfl, .of h2, h3⟩
theorem Rep.seqL {v : V} {ps : List P} (r : Rep K Z H v (.lst ps)) : ∃ a vs, v = .ref a ∧ SqL K H a vs ∧ Reps K Z H vs ps := by
  cases r with
  | lst h1 h2 h3 => exact ⟨_, _, rfl, .of h2, h3⟩
theorem Rep.seqM {v : V} {ps : List P} (r : Rep K Z H v (.lst ps)) : ∃ a vs, v = .ref a ∧ H a = some (.lst vs) ∧ Reps K Z H vs ps := by
  cases r with
  | lst h1 h2 h3 => exact ⟨_, _, rfl, h2, h3⟩
theorem Rep.seqS {v : V} {ps : List P} (r : Rep K Z H v (.scr ps)) : ∃ a vs, v = .ref a ∧ SqL K H a vs ∧ Reps K Z H vs ps := by
  cases r with
  | scr h1 h2 h3 => exact ⟨_, _, rfl, .inl h2, h3⟩
  | kls h2 h3 => exact ⟨_, _, rfl, .inr h2, h3⟩
theorem Rep.seq {v : V} {p : P} {ps : List P} (r : Rep K Z H v p) (e : asS p = .ok ps) : ∃ a vs, v = .ref a ∧ (SqL K H a vs ∨ SqT K H a vs) ∧ Reps K Z H vs ps := by
  cases p with
  | tup xs =>
    cases e
    obtain ⟨a, vs, h1, h2, h3⟩ := r.seqT
    exact ⟨a, vs, h1, .inr h2, h3⟩
  | lst xs =>
    cases e
    obtain ⟨a, vs, h1, h2, h3⟩ := r.seqL
    exact ⟨a, vs, h1, .inl h2, h3⟩
  | _ => cases e
theorem Reps.ints : ∀ {vs : List V} {ps : List P} {ns : List Int}, Reps K Z H vs ps → intsL ps = some ns → vs = ns.map V.int
  | _, _, _, .nil, e => by cases e; rfl
  | _, _, _, .cons (v := v) (p := p) r t, e => by
    cases p with
    | int i =>
      cases r
      unfold intsL at e
      cases h : intsL _ with
      | none => rw [h] at e; cases e
      | some l =>
        rw [h] at e
        cases e
        rw [Reps.ints t h]
        rfl
    | _ => cases e
theorem Reps.bools : ∀ {vs : List V} {ps : List P} {ns : List Bool}, Reps K Z H vs ps → boolsL ps = some ns → vs = ns.map V.bl
  | _, _, _, .nil, e => by cases e; rfl
  | _, _, _, .cons (v := v) (p := p) r t, e => by
    cases p with
    | bl i =>
      cases r
      unfold boolsL at e
      cases h : boolsL _ with
      | none => rw [h] at e; cases e
      | some l =>
        rw [h] at e
        cases e
        rw [Reps.bools t h]
        rfl
    | _ => cases e
theorem same_upd {p : Addr} {o : HO} (h : H p = none) : Same H (upd H p o) := fun b x e => by
  rw [upd_ne (ne_of_none e h)]
  exact e
end

/-! ### slots in the heap -/
section
variable (K : Frg) (Z : Addr → Prop)
/-- Z: what the callers hold; O: what this body holds -/
def ZO (Z : Addr → Prop) (O : List Addr) : Addr → Prop := fun a => Z a ∨ a ∈ O
inductive RepS (O : List Addr) (H : Hp) : Option V → Sl → Prop
  | un {o : Option V} : RepS O H o .un
  | fz {v : V} {p : P} : Rep K (ZO Z O) H v p → RepS O H (some v) (.fz p)
  | ow {a : Addr} {vs : List V} {ps : List P} : a ∈ O → H a = some (.lst vs) → Reps K (ZO Z O) H vs ps → RepS O H (some (.ref a)) (.ow ps)
  | od {a : Addr} {ds : List (List Key × V)} {kvs : List (List Int × P)} : a ∈ O → H a = some (.dT ds) → RepD K (ZO Z O) H ds kvs → RepS O H (some (.ref a)) (.od kvs)
def isOwn : Sl → Bool
  | .ow _ => true | .od _ => true | _ => false
structure EnvRep (O : List Addr) (H : Hp) (σ : L2.St) (ρ : Ev) : Prop where
  len : σ.length = ρ.length
  sl : ∀ (i : Nat) (s : Sl), ρ[i]? = some s → ∃ o, σ[i]? = some o ∧ RepS K Z O H o s
  one : ∀ (i j : Nat) (s t : Sl) (a : Addr), ρ[i]? = some s → ρ[j]? = some t → isOwn s = true → isOwn t = true → σ[i]? = some (some (.ref a)) → σ[j]? = some (some (.ref a)) → i = j
  own : ∀ a ∈ O, (H a).isSome = true ∧ ¬ Z a
  zz : ∀ a, Z a → (H a).isSome = true
end
section
variable {K : Frg} {Z : Addr → Prop} {O : List Addr} {H H' : Hp} {σ : L2.St} {ρ : Ev}
theorem RepS.same (s : Same H H') {o : Option V} {t : Sl} (r : RepS K Z O H o t) : RepS K Z O H' o t := by
  cases r with
  | un => exact .un
  | fz h => exact .fz (h.same s)
  | ow h1 h2 h3 => exact .ow h1 (s _ _ h2) (h3.same s)
  | od h1 h2 h3 => exact .od h1 (s _ _ h2) (h3.same s)
theorem some_same (s : Same H H') {a : Addr} (h : (H a).isSome = true) : (H' a).isSome = true := by
  obtain ⟨o, e⟩ := Option.isSome_iff_exists.mp h
  rw [s _ _ e]
  rfl
theorem EnvRep.same (s : Same H H') (e : EnvRep K Z O H σ ρ) : EnvRep K Z O H' σ ρ :=
  ⟨e.len, fun i t h => let ⟨o, h1, h2⟩ := e.sl i t h; ⟨o, h1, h2.same s⟩, e.one, fun a h => ⟨some_same s (e.own a h).1, (e.own a h).2⟩, fun a h => some_same s (e.zz a h)⟩
theorem EnvRep.get {i : Nat} {p : P} (e : EnvRep K Z O H σ ρ) (h : getS ρ i = .ok p) : ∃ v, σ[i]? = some (some v) ∧ Rep K (ZO Z O) H v p := by
  unfold getS at h
  cases q : ρ[i]? with
  | none => rw [q] at h; cases h
  | some s =>
    rw [q] at h
    cases s with
    | fz p' =>
      cases h
      obtain ⟨o, h1, h2⟩ := e.sl i _ q
      cases h2 with
      | fz r => exact ⟨_, h1, r⟩
    | _ => cases h
/-- a new address is nobody's -/
theorem EnvRep.fresh {a : Addr} (e : EnvRep K Z O H σ ρ) (h : H a = none) : ¬ ZO Z O a := fun z => by
  rcases z with z | z
  · have := e.zz a z
    rw [h] at this
    cases this
  · have := (e.own a z).1
    rw [h] at this
    cases this
theorem EnvRep.newTup {a : Addr} {vs : List V} {ps : List P} (e : EnvRep K Z O H σ ρ) (h : H a = none) (r : Reps K (ZO Z O) H vs ps) : Rep K (ZO Z O) (upd H a (.tup vs)) (.ref a) (.tup ps) :=
  .tup (e.fresh h) upd_same (r.same (same_upd h))
theorem EnvRep.newLst {a : Addr} {vs : List V} {ps : List P} (e : EnvRep K Z O H σ ρ) (h : H a = none) (r : Reps K (ZO Z O) H vs ps) : Rep K (ZO Z O) (upd H a (.lst vs)) (.ref a) (.lst ps) :=
  .lst (e.fresh h) upd_same (r.same (same_upd h))
end

/-! ### what is wanted of an evaluation -/
/-- an own exception in the heap: its class's address is told by ca, its dict has the fields by the names of cf -/
structure Cls where
  ca : Nat → Addr
  cf : Nat → List Str
  ok : Nat → Bool
def XRep (C : Cls) (K : Frg) (Z : Addr → Prop) (H : Hp) (x : Exn) (cls : Value) (d : Option Addr) : Prop :=
  cls = .ref (C.ca x.c) ∧ C.ok x.c = true ∧ ∃ (dd : Addr) (vs : List V), d = some dd ∧ ¬ Z dd ∧ H dd = some (.xd ((C.cf x.c).zip vs)) ∧ vs.length = (C.cf x.c).length ∧ Reps K Z H vs x.fs
section
variable (C : Cls) (K : Frg) (Z : Addr → Prop) (W : WX)
def tX (O : List Addr) (σ : L2.St) (H : Hp) (x : Exn) : Prop := ∀ cls d H', Same H H' → XRep C K (ZO Z O) H' x cls d → W cls d σ H'
def tE (r : Rs P) (O : List Addr) (σ : L2.St) (H : Hp) (Q : VK) : Prop := match r with
  | .ok p => ∀ v H', Same H H' → Rep K (ZO Z O) H' v p → Q v H'
  | .exc x => tX C K Z W O σ H x
  | .bad => False
def tL (r : Rs (List P)) (O : List Addr) (σ : L2.St) (H : Hp) (Q : List V → Hp → Prop) : Prop := match r with
  | .ok ps => ∀ vs H', Same H H' → Reps K (ZO Z O) H' vs ps → Q vs H'
  | .exc x => tX C K Z W O σ H x
  | .bad => False
def tG {α : Type} (r : Rs α) (O : List Addr) (σ : L2.St) (H : Hp) (Q : α → Hp → Prop) : Prop := match r with
  | .ok b => ∀ H', Same H H' → Q b H'
  | .exc x => tX C K Z W O σ H x
  | .bad => False
end
section
variable (C : Cls) (K : Frg) (W : WX)
def tEv (F : Ev → Rs P) : TE := fun σ H Q => ∃ Z ρ O, EnvRep K Z O H σ ρ ∧ tE C K Z W (F ρ) O σ H Q
def tLv (F : Ev → Rs (List P)) : TA := fun σ H Q => ∃ Z ρ O, EnvRep K Z O H σ ρ ∧ tL C K Z W (F ρ) O σ H Q
def tTv (F : Ev → Rs P) : TT := fun σ H Q => ∃ Z ρ O, EnvRep K Z O H σ ρ ∧ tG C K Z W ((F ρ).bind asB) O σ H Q
def tOv (F : Ev → Rs (Option Int)) : TO := fun σ H Q => ∃ Z ρ O, EnvRep K Z O H σ ρ ∧ tG C K Z W (F ρ) O σ H Q
end
section
variable {C : Cls} {K : Frg} {Z : Addr → Prop} {W : WX} {O : List Addr} {σ : L2.St} {H H1 : Hp}
theorem same_tr {H H1 H2 : Hp} (a : Same H H1) (b : Same H1 H2) : Same H H2 := fun c o h => b c o (a c o h)
theorem tX.same {x : Exn} (s : Same H H1) (h : tX C K Z W O σ H x) : tX C K Z W O σ H1 x := fun cls d H' s' r => h cls d H' (same_tr s s') r
theorem tE.same {r : Rs P} {Q : VK} (s : Same H H1) (h : tE C K Z W r O σ H Q) : tE C K Z W r O σ H1 Q := by
  cases r with
  | ok p => exact fun v H' s' q => h v H' (same_tr s s') q
  | exc x => exact tX.same s h
  | bad => exact h
theorem tL.same {r : Rs (List P)} {Q : List V → Hp → Prop} (s : Same H H1) (h : tL C K Z W r O σ H Q) : tL C K Z W r O σ H1 Q := by
  cases r with
  | ok p => exact fun v H' s' q => h v H' (same_tr s s') q
  | exc x => exact tX.same s h
  | bad => exact h
theorem tG.same {α : Type} {r : Rs α} {Q : α → Hp → Prop} (s : Same H H1) (h : tG C K Z W r O σ H Q) : tG C K Z W r O σ H1 Q := by
  cases r with
  | ok p => exact fun H' s' => h H' (same_tr s s')
  | exc x => exact tX.same s h
  | bad => exact h
theorem tE_bind {r : Rs P} {f : P → Rs P} {Q R : VK} (h : tE C K Z W (r.bind f) O σ H Q) (k : ∀ x v H1, r = .ok x → Same H H1 → Rep K (ZO Z O) H1 v x → tE C K Z W (f x) O σ H1 Q → R v H1) : tE C K Z W r O σ H R := by
  cases r with
  | ok p => exact fun v H' s q => k p v H' rfl s q (tE.same s h)
  | exc x => exact h
  | bad => exact h
theorem tE_bindG {α : Type} {r : Rs P} {f : P → Rs α} {Q : α → Hp → Prop} {R : VK} (h : tG C K Z W (r.bind f) O σ H Q) (k : ∀ x v H1, r = .ok x → Same H H1 → Rep K (ZO Z O) H1 v x → tG C K Z W (f x) O σ H1 Q → R v H1) : tE C K Z W r O σ H R := by
  cases r with
  | ok p => exact fun v H' s q => k p v H' rfl s q (tG.same s h)
  | exc x => exact h
  | bad => exact h
theorem tE_bindL {r : Rs P} {f : P → Rs (List P)} {Q : List V → Hp → Prop} {R : VK} (h : tL C K Z W (r.bind f) O σ H Q) (k : ∀ x v H1, r = .ok x → Same H H1 → Rep K (ZO Z O) H1 v x → tL C K Z W (f x) O σ H1 Q → R v H1) : tE C K Z W r O σ H R := by
  cases r with
  | ok p => exact fun v H' s q => k p v H' rfl s q (tL.same s h)
  | exc x => exact h
  | bad => exact h
theorem tL_bind {r : Rs (List P)} {f : List P → Rs P} {Q : VK} {R : List V → Hp → Prop} (h : tE C K Z W (r.bind f) O σ H Q) (k : ∀ x v H1, r = .ok x → Same H H1 → Reps K (ZO Z O) H1 v x → tE C K Z W (f x) O σ H1 Q → R v H1) : tL C K Z W r O σ H R := by
  cases r with
  | ok p => exact fun v H' s q => k p v H' rfl s q (tE.same s h)
  | exc x => exact h
  | bad => exact h
theorem tL_bindL {r : Rs (List P)} {f : List P → Rs (List P)} {Q : List V → Hp → Prop} {R : List V → Hp → Prop} (h : tL C K Z W (r.bind f) O σ H Q) (k : ∀ x v H1, r = .ok x → Same H H1 → Reps K (ZO Z O) H1 v x → tL C K Z W (f x) O σ H1 Q → R v H1) : tL C K Z W r O σ H R := by
  cases r with
  | ok p => exact fun v H' s q => k p v H' rfl s q (tL.same s h)
  | exc x => exact h
  | bad => exact h
theorem tG_bind {α : Type} {r : Rs α} {f : α → Rs P} {Q : VK} {R : α → Hp → Prop} (h : tE C K Z W (r.bind f) O σ H Q) (k : ∀ x H1, r = .ok x → Same H H1 → tE C K Z W (f x) O σ H1 Q → R x H1) : tG C K Z W r O σ H R := by
  cases r with
  | ok p => exact fun H' s => k p H' rfl s (tE.same s h)
  | exc x => exact h
  | bad => exact h
theorem tT_of {F : Ev → Rs P} {Q : Bool → Hp → Prop} (h : tTv C K W F σ H Q) : tEv C K W F σ H (fun x H1 => ∃ c, x = .bl c ∧ Q c H1) := by
  obtain ⟨Z, ρ, O, er, h⟩ := h
  refine ⟨Z, ρ, O, er, tE_bindG h fun x v H1 e s r g => ?_⟩
  cases x with
  | bl b =>
    cases r
    exact ⟨b, rfl, g H1 fun _ _ z => z⟩
  | _ => exact False.elim g
theorem tG_bindG {α β : Type} {r : Rs α} {f : α → Rs β} {Q : β → Hp → Prop} {R : α → Hp → Prop} (h : tG C K Z W (r.bind f) O σ H Q) (k : ∀ x H1, r = .ok x → Same H H1 → tG C K Z W (f x) O σ H1 Q → R x H1) : tG C K Z W r O σ H R := by
  cases r with
  | ok p => exact fun H' s => k p H' rfl s (tG.same s h)
  | exc x => exact h
  | bad => exact h
end
section
variable {X : Cx} {e : Expr}
theorem pe_imp {t t' : TE} (h : PE X e t) (f : ∀ σ H Q, t' σ H Q → t σ H Q) : PE X e t' := ⟨fun pins s σ H Q I q => h.run pins s σ H Q I (f σ H Q q)⟩
theorem pt_imp {t t' : TT} (h : PT X e t) (f : ∀ σ H Q, t' σ H Q → t σ H Q) : PT X e t' := ⟨fun pins s σ H Q I q => h.run pins s σ H Q I (f σ H Q q)⟩
theorem pw_imp {t t' : TT} (h : PW X e t) (f : ∀ σ H Q, t' σ H Q → t σ H Q) : PW X e t' := ⟨fun w pins s σ H Q I q => h.run w pins s σ H Q I (f σ H Q q)⟩
theorem pa_imp {es : List Expr} {t t' : TA} (h : PA X es t) (f : ∀ σ H Q, t' σ H Q → t σ H Q) : PA X es t' := ⟨fun pos pins s σ H Q I q => h.run pos pins s σ H Q I (f σ H Q q)⟩
theorem po_imp {o : Option Expr} {t t' : TO} (h : PO X o t) (f : ∀ σ H Q, t' σ H Q → t σ H Q) : PO X o t' := ⟨fun pins s σ H Q I q => h.run pins s σ H Q I (f σ H Q q)⟩
end
end PL
end

section
set_option Elab.async false
set_option linter.all false
set_option maxRecDepth 100000
set_option maxHeartbeats 2000000
/-! PLOps: the operators of the language are those of the model. -/
namespace PL
open PySem PySem.Spec
open PyProof.Rows
open L2 hiding start

theorem Rs.when_ok {α : Type} {c : Bool} {r : Rs α} {a : α} (h : Rs.when c r = .ok a) : c = true ∧ r = .ok a := by
  cases c with
  | true => exact ⟨rfl, h⟩
  | false => cases h
theorem big_eq : sizeLine = big := by rw [sizeLine_eq]
theorem keepAll (H : Hp) : Same H H := fun _ _ h => h

/-! ### tuple * 1, tuple * 0 -/
theorem tup_mul_one (l : Addr) (items : Array Value) (n : Nat) (dd : Option Addr) (sl : Array (Option Value)) (u : Tok) :
    Meets (Builtin.«tuple.__mul__» ⟨[.ref l, .int 1 u], []⟩) (fun _ R s => s.heap.get? l = some { cls := .type "tuple", dict := dd, data := .seq items n, slots := sl } ∧
      R (.ok (.ret (Value.ref l))) s) :=
  .of_wp fun prog w A R s h => by
    obtain ⟨hp, g, d, tk, os⟩ := s
    obtain ⟨hl, h⟩ := h
    have f1 := AutoSeq1.idx_int
    wp_walk using wpAny_loadPart' hl
    exact ⟨_, rfl, h⟩
theorem tup_mul_zero (l : Addr) (x : Value) (xs : List Value) (n : Nat) (dd : Option Addr) (sl : Array (Option Value)) (u : Tok) :
    Meets (Builtin.«tuple.__mul__» ⟨[.ref l, .int 0 u], []⟩) (fun _ R s => s.heap.get? l = some { cls := .type "tuple", dict := dd, data := .seq (x :: xs).toArray n, slots := sl } ∧
      R (.ok (.ret (Value.ref s.heap.objs.size))) { s with heap := s.heap.push { cls := Value.type "tuple", data := Data.seq #[] }, toks := s.toks }) :=
  .of_wp fun prog w A R s h => by
    obtain ⟨hp, g, d, tk, os⟩ := s
    obtain ⟨hl, h⟩ := h
    have f1 := AutoSeq1.idx_int
    have e1 : ((x :: xs).toArray.isEmpty || (0 : Int) == 1) = false := rfl
    have e2 : (decide ((0 : Int) ≤ 0) || (x :: xs).toArray.isEmpty) = true := rfl
    wp_walk using wpAny_loadPart' hl
    exact ⟨_, rfl, h⟩

/-- an operation of two values that gives a value -/
def rP (K : Frg) (g : P → P → Rs P) : R2 := fun v u H Q => ∃ (Zo : Addr → Prop) (x y p : P), (∀ a, H a = none → ¬ Zo a) ∧ Rep K Zo H v x ∧ Rep K Zo H u y ∧ g x y = .ok p ∧ ∀ w H', Same H H' → Rep K Zo H' w p → Q w H'
def rB (K : Frg) (g : P → P → Rs Bool) : R2 := fun v u H Q => ∃ (Zo : Addr → Prop) (x y : P) (b : Bool), Rep K Zo H v x ∧ Rep K Zo H u y ∧ g x y = .ok b ∧ Q (.bl b) H
section
variable {K : Frg} {Zo : Addr → Prop} {H : Hp}
theorem tupNew {a : Addr} {vs : List V} {ps : List P} (f : ∀ a, H a = none → ¬ Zo a) (h : H a = none) (r : Reps K Zo H vs ps) : Rep K Zo (upd H a (.tup vs)) (.ref a) (.tup ps) :=
  .tup (f a h) upd_same (r.same (same_upd h))
theorem lstNew {a : Addr} {vs : List V} {ps : List P} (f : ∀ a, H a = none → ¬ Zo a) (h : H a = none) (r : Reps K Zo H vs ps) : Rep K Zo (upd H a (.lst vs)) (.ref a) (.lst ps) :=
  .lst (f a h) upd_same (r.same (same_upd h))
end
section
variable {X : Cx}
theorem op_repT01 {k : Int} (hk : k = 0 ∨ k = 1) {pins : List (Addr × Obj)} {s : Shared} {σ : L2.St} {H : Hp} {l : Addr} {xs : List V} {t : Tok} {Q : VK} (I : Inv X pins σ H s) (hT : SqT X.K H l xs) (hne : xs ≠ [])
    (q1 : k = 1 → Q (.ref l) H) (q0 : k = 0 → ∀ p, H p = none → Q (.ref p) (upd H p (.tup []))) :
    wpAny (model X.prog X.w) X.A (binaryOp .Mult (.ref l) (.int k t)) (EP X pins σ Q) X.xe s := by
  obtain ⟨its, r, ⟨⟨cls, dd, data, sl⟩, ho, hc, n, hd⟩, hs⟩ := I.tuple hT
  simp only at hc hd
  subst hc hd
  have go : ∀ {R : Result → Shared → Prop}, (codeAny (model X.prog X.w) X.A (.call (.builtin "tuple.__mul__") ⟨[.ref l, .int k t], []⟩) R s) → True := fun _ => trivial
  refine wpAny_binaryOp_repeat_ref (T := "tuple") (U := "int") (by decide) ⟨_, ho, rfl⟩ (fun s' => typeIs_int s' k t) noFill_tuple_mul F.fills_int_mul F.slot_int_rmul repeat_tuple F.slot_int_index.lookup
    (call_meets F.slot_int_rmul (typeIs_int s k t) F.entry_int_rmul (F.args_int_rmul_2 _ _) (int_rmul_tuple k t l its.toArray n dd sl) ⟨ho, rfl, ⟨_, ho, rfl⟩, ?_⟩)
  rcases hk with rfl | rfl
  · cases its with
    | nil => cases r; exact absurd rfl hne
    | cons y ys =>
      refine call_meets F.slot_tuple_mul ⟨_, ho, rfl⟩ F.entry_tuple_mul (F.args_tuple_mul_2 _ _) (tup_mul_zero l y ys n dd sl t) ⟨ho, ?_⟩
      refine ⟨.ref s.heap.objs.size, _, I.laid (t' := s.toks) (o := .tup []) (fun b ob q => Heap.get?_push_of_some _ q) (Nat.le_refl _) ?_, rfl, q0 rfl _ (I.hok.fresh (Nat.le_refl _))⟩
      exact ⟨Nat.zero_le _, [], .nil, IsTup.new _ _⟩
  · refine call_meets F.slot_tuple_mul ⟨_, ho, rfl⟩ F.entry_tuple_mul (F.args_tuple_mul_2 _ _) (tup_mul_one l its.toArray n dd sl t) ⟨ho, ?_⟩
    exact ⟨.ref l, H, I, rfl, q1 rfl⟩

def bopE : BOp → Operator
  | .add => .Add | .sub => .Sub | .mul => .Mult | .fdiv => .FloorDiv | .mod => .Mod | .pow => .Pow
theorem Reps.nil_of {K : Frg} {Zo : Addr → Prop} {H : Hp} {ps : List P} (r : Reps K Zo H [] ps) : ps = [] := by cases r; rfl
theorem op_bin (o : BOp) : OpR X (binaryOp (bopE o)) (rP X.K (binP o)) := by
  intro pins s σ H v u ov ou Q I r1 r2 h
  obtain ⟨Zo, x, y, p, fr, rx, ry, e, q⟩ := h
  have fin : ∀ {w : V}, Rep X.K Zo H w p → Q w H := fun r => q _ _ (keepAll H) r
  cases o with
  | add =>
    cases x with
    | int i =>
      cases y with
      | int j => cases rx; cases ry; cases e; exact op_add pins s σ H _ _ _ _ Q I r1 r2 ⟨i, j, rfl, rfl, fin (.int _)⟩
      | _ => cases e
    | str i =>
      cases y with
      | str j =>
        cases rx; cases ry
        obtain ⟨c, e⟩ := Rs.when_ok e
        cases e
        exact op_add_str pins s σ H _ _ _ _ Q I r1 r2 ⟨i, j, rfl, rfl, by rw [big_eq]; exact of_decide_eq_true c, fin (.str _)⟩
      | _ => cases e
    | tup xs =>
      cases y with
      | tup ys =>
        obtain ⟨c, e⟩ := Rs.when_ok e
        cases e
        obtain ⟨a, vs, rfl, ha, hr⟩ := rx.seqT
        obtain ⟨b, ws, rfl, hb, hr2⟩ := ry.seqT
        refine op_catA pins s σ H _ _ _ _ Q I r1 r2 ⟨a, b, vs, ws, rfl, rfl, ha, hb, by rw [big_eq, hr.length, hr2.length]; exact of_decide_eq_true c, fun h0 => ?_, fun h0 h1 => ?_, fun h0 h1 p hp => ?_⟩
        · subst h0; rw [hr.nil_of, List.nil_append] at fin; exact fin ry
        · subst h1; rw [hr2.nil_of, List.append_nil] at fin; exact fin rx
        · exact q _ _ (same_upd hp) (tupNew fr hp (hr.append hr2))
      | _ => cases e
    | lst xs =>
      cases y with
      | lst ys =>
        obtain ⟨c, e⟩ := Rs.when_ok e
        cases e
        obtain ⟨a, vs, rfl, ha, hr⟩ := rx.seqM
        obtain ⟨b, ws, rfl, hb, hr2⟩ := ry.seqM
        exact op_cat pins s σ H _ _ _ _ Q I r1 r2 ⟨a, b, vs, ws, rfl, rfl, ha, hb, by rw [big_eq, hr.length, hr2.length]; exact of_decide_eq_true c, fun p hp => q _ _ (same_upd hp) (lstNew fr hp (hr.append hr2))⟩
      | _ => cases e
    | _ => cases e
  | sub =>
    cases x with
    | int i =>
      cases y with
      | int j => cases rx; cases ry; cases e; exact op_sub pins s σ H _ _ _ _ Q I r1 r2 ⟨i, j, rfl, rfl, fin (.int _)⟩
      | _ => cases e
    | _ => cases e
  | mul =>
    cases x with
    | int i =>
      cases y with
      | int j =>
        cases rx; cases ry
        obtain ⟨c, e⟩ := Rs.when_ok e
        cases e
        unfold mulOk at c
        rw [Bool.or_eq_true, Bool.or_eq_true, decide_eq_true_iff, decide_eq_true_iff, decide_eq_true_iff] at c
        rcases c with (c | c) | c
        · exact op_mul pins s σ H _ _ _ _ Q I r1 r2 ⟨i, j, rfl, rfl, .inl ⟨by omega, by omega⟩, fin (.int _)⟩
        · exact op_mul pins s σ H _ _ _ _ Q I r1 r2 ⟨i, j, rfl, rfl, .inr ⟨by omega, by omega⟩, fin (.int _)⟩
        · exact op_mulW pins s σ H _ _ _ _ Q I r1 r2 ⟨i, j, rfl, rfl, c, fin (.int _)⟩
      | _ => cases e
    | tup xs =>
      cases y with
      | int k =>
        obtain ⟨c, e⟩ := Rs.when_ok e
        cases e
        obtain ⟨a, vs, rfl, ha, hr⟩ := rx.seqT
        cases ry
        have c := of_decide_eq_true c
        have hl := hr.length
        cases r1
        obtain ⟨t, rfl⟩ := r2
        have hn : vs ≠ [] := fun e => by rw [e] at hl; simp at hl; omega
        · by_cases hk : 2 ≤ k
          · exact op_repT pins s σ H (.ref a) (.int k) _ _ Q I rfl ⟨t, rfl⟩ ⟨a, k, vs, rfl, rfl, ha, hn, hk, by omega, by omega, fun p hp => q _ _ (same_upd hp) (tupNew fr hp (hr.flat _))⟩
          · refine op_repT01 (by omega) I ha hn (fun h1 => ?_) (fun h0 p hp => ?_)
            · subst h1; refine fin ?_; simpa using rx
            · subst h0; exact q _ _ (same_upd hp) (tupNew fr hp .nil)
      | _ => cases e
    | lst xs =>
      cases y with
      | int k =>
        obtain ⟨c, e⟩ := Rs.when_ok e
        cases e
        obtain ⟨a, vs, rfl, ha, hr⟩ := rx.seqM
        cases ry
        have c := of_decide_eq_true c
        have hl := hr.length
        refine op_rep pins s σ H _ _ _ _ Q I r1 r2 ⟨a, k, vs, rfl, rfl, ha, by omega, by omega, ?_, fun p hp => q _ _ (same_upd hp) (lstNew fr hp (hr.flat _))⟩
        rw [sizeLine_eq]
        have : vs.length * k.toNat ≤ 1000 * 1000 := Nat.mul_le_mul (by omega) (by omega)
        omega
      | _ => cases e
    | _ => cases e
  | fdiv =>
    cases x with
    | int i =>
      cases y with
      | int j =>
        cases rx; cases ry
        obtain ⟨c, e⟩ := Rs.when_ok e
        cases e
        rw [Bool.and_eq_true, decide_eq_true_iff, decide_eq_true_iff] at c
        exact op_fdivW pins s σ H _ _ _ _ Q I r1 r2 ⟨i, j, rfl, rfl, c, fin (.int _)⟩
      | _ => cases e
    | _ => cases e
  | mod =>
    cases x with
    | int i =>
      cases y with
      | int j =>
        cases rx; cases ry
        obtain ⟨c, e⟩ := Rs.when_ok e
        cases e
        exact op_mod pins s σ H _ _ _ _ Q I r1 r2 ⟨i, j, rfl, rfl, of_decide_eq_true c, fin (.int _)⟩
      | _ => cases e
    | _ => cases e
  | pow =>
    cases x with
    | int i =>
      cases y with
      | int j =>
        cases rx; cases ry
        obtain ⟨c, e⟩ := Rs.when_ok e
        cases e
        rw [Bool.and_eq_true, Bool.and_eq_true, decide_eq_true_iff, decide_eq_true_iff, decide_eq_true_iff] at c
        obtain ⟨⟨rfl, c2⟩, c3⟩ := c
        exact op_pow pins s σ H _ _ _ _ Q I r1 r2 ⟨10, j, rfl, rfl, ⟨c2, by omega, by decide⟩, fin (.int _)⟩
      | _ => cases e
    | _ => cases e

/-! ### comparisons -/
mutual
def toPD : P → PyData
  | .non => .none | .bl b => .bool b | .int i => .int i | .str x => .str x | .tup xs => .tuple (toPDs xs) | .lst xs => .list (toPDs xs) | .dic _ => .none | .scr _ => .none
def toPDs : List P → List PyData
  | [] => [] | x :: r => toPD x :: toPDs r
end
mutual
theorem dp_of {K : Frg} {Z : Addr → Prop} {H : Hp} : ∀ {d : Nat} {p : P} {v : V}, shp d p = true → Rep K Z H v p → Dp K H v (toPD p)
  | _, .non, _, _, r => by cases r; exact .non
  | _, .bl b, _, _, r => by cases r; exact .bl b
  | _, .int b, _, _, r => by cases r; exact .int b
  | _, .str b, _, _, r => by cases r; exact .str b
  | 0, .lst xs, _, h, r => by simp [shp] at h
  | 0, .tup xs, _, h, r => by simp [shp] at h
  | d + 1, .lst xs, _, h, r => by
    obtain ⟨a, vs, rfl, h1, h2⟩ := r.seqL
    exact .lst h1 (dps_of (d := d) (by simpa [shp] using h) h2)
  | d + 1, .tup xs, _, h, r => by
    obtain ⟨a, vs, rfl, h1, h2⟩ := r.seqT
    exact .tup h1 (dps_of (d := d) (by simpa [shp] using h) h2)
  | d, .dic _, _, h, r => by cases d <;> simp [shp] at h
  | d, .scr _, _, h, r => by cases d <;> simp [shp] at h
theorem dps_of {K : Frg} {Z : Addr → Prop} {H : Hp} : ∀ {d : Nat} {p : List P} {v : List V}, shps d p = true → Reps K Z H v p → DpAll K H v (toPDs p)
  | _, [], _, _, r => by cases r; exact .nil
  | d, x :: xs, _, h, r => by
    cases r with
    | cons r1 r2 =>
      unfold shps at h
      rw [Bool.and_eq_true] at h
      exact .cons (dp_of h.1 r1) (dps_of h.2 r2)
end
mutual
theorem lay_of : ∀ {d : Nat} {p : P}, shp d p = true → (toPD p).canLay0 = true ∧ (toPD p).depth ≤ d
  | _, .non, _ => ⟨by simp [toPD, PyData.canLay0], by simp [toPD, PyData.depth]⟩
  | _, .bl b, _ => ⟨by simp [toPD, PyData.canLay0], by simp [toPD, PyData.depth]⟩
  | _, .int b, _ => ⟨by simp [toPD, PyData.canLay0], by simp [toPD, PyData.depth]⟩
  | _, .str b, h => ⟨by simpa [toPD, PyData.canLay0, shp] using h, by simp [toPD, PyData.depth]⟩
  | 0, .lst xs, h => by simp [shp] at h
  | 0, .tup xs, h => by simp [shp] at h
  | d + 1, .lst xs, h => by
    have q := lays_of (d := d) (p := xs) (by simpa [shp] using h)
    exact ⟨by simpa [toPD, PyData.canLay0] using q.1, by simp only [toPD, PyData.depth]; have := q.2; omega⟩
  | d + 1, .tup xs, h => by
    have q := lays_of (d := d) (p := xs) (by simpa [shp] using h)
    exact ⟨by simpa [toPD, PyData.canLay0] using q.1, by simp only [toPD, PyData.depth]; have := q.2; omega⟩
  | d, .dic _, h => by cases d <;> simp [shp] at h
  | d, .scr _, h => by cases d <;> simp [shp] at h
theorem lays_of : ∀ {d : Nat} {p : List P}, shps d p = true → PyData.canLayAll0 (toPDs p) = true ∧ PyData.depthAll (toPDs p) ≤ d
  | _, [], _ => ⟨by simp [toPDs, PyData.canLayAll0], by simp [toPDs, PyData.depthAll]⟩
  | d, x :: xs, h => by
    unfold shps at h
    rw [Bool.and_eq_true] at h
    have a := lay_of h.1
    have b := lays_of h.2
    refine ⟨by simp [toPDs, PyData.canLayAll0, a.1, b.1], ?_⟩
    simp only [toPDs, PyData.depthAll]
    have := a.2
    have := b.2
    omega
end
theorem shaped_of {d : Nat} {p : P} (h : shp d p = true) (hd : d ≤ 64) : SeqAt.shaped (toPD p) = true := by
  have q := lay_of h
  unfold SeqAt.shaped
  rw [q.1, decide_eq_true (by have := q.2; omega)]
  rfl
mutual
theorem eqv_of : ∀ {d e : Nat} (p q : P), shp d p = true → shp e q = true → PyData.eqv (toPD p) (toPD q) = eqv p q
  | d, e, p, q, h1, h2 => by
    cases p with
    | lst xs =>
      cases d with
      | zero => simp [shp] at h1
      | succ d =>
        cases q with
        | lst ys =>
          cases e with
          | zero => simp [shp] at h2
          | succ e => simp only [toPD, PyData.eqv, eqv]; exact eqvs_of (d := d) (e := e) xs ys (by simpa [shp] using h1) (by simpa [shp] using h2)
        | dic _ => cases e <;> simp [shp] at h2
        | scr _ => cases e <;> simp [shp] at h2
        | _ => simp [toPD, PyData.eqv, eqv]
    | tup xs =>
      cases d with
      | zero => simp [shp] at h1
      | succ d =>
        cases q with
        | tup ys =>
          cases e with
          | zero => simp [shp] at h2
          | succ e => simp only [toPD, PyData.eqv, eqv]; exact eqvs_of (d := d) (e := e) xs ys (by simpa [shp] using h1) (by simpa [shp] using h2)
        | dic _ => cases e <;> simp [shp] at h2
        | scr _ => cases e <;> simp [shp] at h2
        | _ => simp [toPD, PyData.eqv, eqv]
    | dic _ => cases d <;> simp [shp] at h1
    | scr _ => cases d <;> simp [shp] at h1
    | non => cases q <;> first | (simp [toPD, PyData.eqv, eqv]; done) | (cases e <;> simp [shp] at h2)
    | bl _ => cases q <;> first | (simp [toPD, PyData.eqv, eqv]; done) | (cases e <;> simp [shp] at h2)
    | int _ => cases q <;> first | (simp [toPD, PyData.eqv, eqv]; done) | (cases e <;> simp [shp] at h2)
    | str _ => cases q <;> first | (simp [toPD, PyData.eqv, eqv]; done) | (cases e <;> simp [shp] at h2)
theorem eqvs_of : ∀ {d e : Nat} (p q : List P), shps d p = true → shps e q = true → PyData.eqvAll (toPDs p) (toPDs q) = eqvs p q
  | _, _, [], [], _, _ => by simp [toPDs, PyData.eqvAll, eqvs]
  | _, _, [], _ :: _, _, _ => by simp [toPDs, PyData.eqvAll, eqvs]
  | _, _, _ :: _, [], _, _ => by simp [toPDs, PyData.eqvAll, eqvs]
  | d, e, x :: xs, y :: ys, h1, h2 => by
    unfold shps at h1 h2
    rw [Bool.and_eq_true] at h1 h2
    simp only [toPDs, PyData.eqvAll, eqvs]
    rw [eqv_of x y h1.1 h2.1, eqvs_of xs ys h1.2 h2.2]
end
theorem any_of {e : Nat} (x : P) (hx : shp e x = true) : ∀ {d : Nat} (ys : List P), shps d ys = true → ((toPDs ys).any fun z => PyData.eqv z (toPD x)) = ys.any fun y => eqv y x
  | _, [], _ => by simp [toPDs]
  | d, y :: ys, h => by
    unfold shps at h
    rw [Bool.and_eq_true] at h
    simp only [toPDs, List.any_cons]
    rw [eqv_of y x h.1 hx, any_of x hx ys h.2]
theorem flat_of {K : Frg} {Z : Addr → Prop} {H : Hp} {v : V} {p : P} (r : Rep K Z H v p) (h : flat p = true) : flatV v = true := by
  cases r <;> first | rfl | cases h
theorem eqV_of {K : Frg} {Z : Addr → Prop} {H : Hp} {v u : V} {p q : P} (r : Rep K Z H v p) (s : Rep K Z H u q) (h1 : flat p = true) (h2 : flat q = true) : eqV v u = eqv p q := by
  cases r <;> first | (cases h1; done) | (cases s <;> first | (cases h2; done) | simp [eqV, eqv])
theorem flats_of {K : Frg} {Z : Addr → Prop} {H : Hp} {v : V} {p : P} (r : Rep K Z H v p) (h : flat p = true) : ∀ {vs : List V} {ps : List P}, Reps K Z H vs ps → ps.all flat = true → vs.all flatV = true ∧ inV v vs = ps.any fun y => eqv y p
  | _, _, .nil, _ => ⟨rfl, rfl⟩
  | _, _, .cons r1 t, q => by
    rw [List.all_cons, Bool.and_eq_true] at q
    have ih := flats_of r h t q.2
    refine ⟨by rw [List.all_cons, flat_of r1 q.1, ih.1]; rfl, ?_⟩
    have e2 := ih.2
    unfold inV at e2 ⊢
    rw [List.any_cons, List.any_cons, eqV_of r1 r q.1 h, e2]

def copE : COp → CmpOp
  | .eq => .Eq | .ne => .NotEq | .lt => .Lt | .le => .LtE | .gt => .Gt | .ge => .GtE | .isn => .Is | .notn => .IsNot | .inn => .In | .nin => .NotIn
theorem eqOk_of {x y : P} (h : eqOk x y = true) : (∃ a b, x = .str a ∧ y = .str b) ∨ (shp 60 x = true ∧ shp 60 y = true) := by
  cases x with
  | str a =>
    cases y with
    | str b => exact .inl ⟨a, b, rfl, rfl⟩
    | _ => exact .inr (by simpa [eqOk, shaped] using h)
  | _ => exact .inr (by simpa [eqOk, shaped] using h)
theorem op_in_P (hu : X.A.units + 65 < cLine) (neg : Bool) : OpR X (compareOp (if neg then .NotIn else .In)) (rB X.K fun x y => (inP x y).bind fun b => .ok (if neg then !b else b)) := by
  intro pins s σ H v u ov ou Q I r1 r2 h
  obtain ⟨Zo, x, y, b, rx, ry, e, q⟩ := h
  dsimp only at e
  cases y with
  | lst ys =>
    cases hc : inP x (.lst ys) with
    | ok b0 =>
      rw [hc] at e
      cases e
      obtain ⟨c, e2⟩ := Rs.when_ok hc
      cases e2
      rw [Bool.and_eq_true] at c
      have h1 : shp 60 x = true := c.1
      have h2 : shp 60 (.lst ys) = true := by simpa [shp] using c.2
      have ea := any_of x h1 ys c.2
      cases neg with
      | false =>
        refine op_inD hu pins s σ H _ _ _ _ Q I r1 r2 ⟨toPD x, toPDs ys, dp_of h1 rx, by have := dp_of h2 ry; simpa [toPD] using this, shaped_of h1 (by decide), by have := shaped_of h2 (by decide); simpa [toPD] using this, ?_⟩
        rw [ea]; exact q
      | true =>
        refine op_notInD hu pins s σ H _ _ _ _ Q I r1 r2 ⟨toPD x, toPDs ys, dp_of h1 rx, by have := dp_of h2 ry; simpa [toPD] using this, shaped_of h1 (by decide), by have := shaped_of h2 (by decide); simpa [toPD] using this, ?_⟩
        rw [ea]; exact q
    | exc _ => rw [hc] at e; cases e
    | bad => rw [hc] at e; cases e
  | tup ys =>
    cases hc : inP x (.tup ys) with
    | ok b0 =>
      rw [hc] at e
      cases e
      obtain ⟨c, e2⟩ := Rs.when_ok hc
      cases e2
      rw [Bool.and_eq_true] at c
      obtain ⟨a, vs, rfl, h1, h2⟩ := ry.seqT
      have f := flats_of rx c.1 h2 c.2
      cases neg with
      | false => exact op_in_seq pins s σ H _ _ _ _ Q I r1 r2 ⟨a, vs, rfl, .inr h1, flat_of rx c.1, f.1, by rw [f.2]; exact q⟩
      | true => exact op_notIn_seq pins s σ H _ _ _ _ Q I r1 r2 ⟨a, vs, rfl, .inr h1, flat_of rx c.1, f.1, by rw [f.2]; exact q⟩
    | exc _ => rw [hc] at e; cases e
    | bad => rw [hc] at e; cases e
  | str z =>
    cases x with
    | str w =>
      cases hw : w.cps.toList with
      | nil => simp [inP, hw] at e
      | cons c r =>
        cases r with
        | cons _ _ => simp [inP, hw] at e
        | nil =>
          simp only [inP, hw] at e
          cases e
          have ew : w = ⟨#[c]⟩ := by
            cases w with
            | mk l =>
              congr 1
              have : l = l.toList.toArray := by simp
              rw [this]
              have hw' : l.toList = [c] := hw
              rw [hw']
          subst ew
          cases rx; cases ry
          cases neg with
          | false => exact op_in_sign pins s σ H _ _ _ _ Q I r1 r2 ⟨c, z, rfl, rfl, q⟩
          | true => exact op_notIn_sign pins s σ H _ _ _ _ Q I r1 r2 ⟨c, z, rfl, rfl, q⟩
    | _ => cases e
  | _ => cases e
theorem op_cmp (hu : X.A.units + 65 < cLine) (o : COp) : OpR X (compareOp (copE o)) (rB X.K (cmpP o)) := by
  intro pins s σ H v u ov ou Q I r1 r2 h
  obtain ⟨Zo, x, y, b, rx, ry, e, q⟩ := h
  cases o with
  | eq =>
    obtain ⟨c, e⟩ := Rs.when_ok e
    cases e
    rcases eqOk_of c with ⟨a, b, rfl, rfl⟩ | ⟨h1, h2⟩
    · cases rx; cases ry
      refine op_eq pins s σ H _ _ _ _ Q I r1 r2 ⟨rfl, ?_⟩
      have : decide (V.str a = V.str b) = eqv (.str a) (.str b) := by simp only [eqv, V.str.injEq]; rw [Bool.eq_iff_iff]; simp
      rw [this]; exact q
    · refine op_eqD (by omega) pins s σ H _ _ _ _ Q I r1 r2 ⟨_, _, dp_of h1 rx, dp_of h2 ry, shaped_of h1 (by decide), shaped_of h2 (by decide), ?_⟩
      rw [eqv_of x y h1 h2]; exact q
  | ne =>
    obtain ⟨c, e⟩ := Rs.when_ok e
    cases e
    rcases eqOk_of c with ⟨a, b, rfl, rfl⟩ | ⟨h1, h2⟩
    · cases rx; cases ry
      refine op_ne pins s σ H _ _ _ _ Q I r1 r2 ⟨rfl, ?_⟩
      have : decide (V.str a = V.str b) = eqv (.str a) (.str b) := by simp only [eqv, V.str.injEq]; rw [Bool.eq_iff_iff]; simp
      rw [this]; exact q
    · refine op_neD (by omega) pins s σ H _ _ _ _ Q I r1 r2 ⟨_, _, dp_of h1 rx, dp_of h2 ry, shaped_of h1 (by decide), shaped_of h2 (by decide), ?_⟩
      rw [eqv_of x y h1 h2]; exact q
  | lt =>
    cases x with
    | int i => cases y with
      | int j => cases rx; cases ry; cases e; exact op_lt pins s σ H _ _ _ _ Q I r1 r2 ⟨i, j, rfl, rfl, q⟩
      | _ => cases e
    | _ => cases e
  | le =>
    cases x with
    | int i => cases y with
      | int j => cases rx; cases ry; cases e; exact op_le pins s σ H _ _ _ _ Q I r1 r2 ⟨i, j, rfl, rfl, q⟩
      | _ => cases e
    | _ => cases e
  | gt =>
    cases x with
    | int i => cases y with
      | int j => cases rx; cases ry; cases e; exact op_gt pins s σ H _ _ _ _ Q I r1 r2 ⟨i, j, rfl, rfl, q⟩
      | _ => cases e
    | _ => cases e
  | ge =>
    cases x with
    | int i => cases y with
      | int j => cases rx; cases ry; cases e; exact op_ge pins s σ H _ _ _ _ Q I r1 r2 ⟨i, j, rfl, rfl, q⟩
      | _ => cases e
    | _ => cases e
  | isn =>
    cases y with
    | non =>
      cases ry
      cases e
      refine op_isN pins s σ H _ _ _ _ Q I r1 r2 ⟨rfl, ?_⟩
      cases rx <;> first | exact q | (rw [decide_eq_true rfl]; exact q) | (rw [decide_eq_false (by intro z; cases z)]; exact q)
    | _ => cases e
  | notn =>
    cases y with
    | non =>
      cases ry
      cases e
      refine op_notN pins s σ H _ _ _ _ Q I r1 r2 ⟨rfl, ?_⟩
      cases rx <;> first | exact q | (rw [decide_eq_true rfl]; exact q) | (rw [decide_eq_false (by intro z; cases z)]; exact q)
    | _ => cases e
  | inn => exact op_in_P hu false pins s σ H _ _ _ _ Q I r1 r2 ⟨Zo, x, y, b, rx, ry, by dsimp only; rw [show inP x y = .ok b from e]; rfl, q⟩
  | nin => exact op_in_P hu true pins s σ H _ _ _ _ Q I r1 r2 ⟨Zo, x, y, b, rx, ry, e, q⟩
end
end PL
end

section
set_option Elab.async false
set_option linter.all false
set_option maxRecDepth 100000
set_option maxHeartbeats 1000000
namespace PL
open PySem PySem.Spec
open PyProof.Rows
open L2 hiding start
section
variable {prog : Program} {w : World} {A : Around} {E : Value → Shared → Prop} {s : Shared} {l : Addr} {its : List Value} {ns : List Int} {Q : Value → Shared → Prop} {xs : Array (Int × Tok)}
theorem it_tup {items : Array Value} (hl : s.heap.IsTuple l items)
    (h : ∀ s₂ : Shared, s₂ = { s with heap := s.heap.push { cls := .type "tuple_iterator", data := .fields #[.ref l, .int 0 0] } } →
      (s₂.heap.IsTupleIter s.heap.objs.size l 0 ∧ s₂.heap.IsTuple l items) → (∀ b ∈ [s.heap.objs.size, l], b < s₂.heap.objs.size) → l ≠ s.heap.objs.size →
      (∀ h' : Heap, (∀ b o, b ∉ [s.heap.objs.size] → s₂.heap.get? b = some o → h'.get? b = some o) → ∀ b o, s.heap.get? b = some o → h'.get? b = some o) → Q (.ref s.heap.objs.size) s₂) :
    wpAny (model prog w) A (pyIter (.ref l)) Q E s := by
  have hlt : l < s.heap.objs.size := by
    obtain ⟨_, e, _⟩ := hl
    exact Heap.lt_size e
  refine wpAny_pyIter_tuple hl (h _ rfl ⟨⟨_, Heap.get?_push_size _ rfl, rfl, rfl⟩, hl.push _⟩ (fun b hb => ?_) (Nat.ne_of_lt hlt) fun h' hk b o e => ?_)
  · show b < (s.heap.push _).objs.size
    rw [Heap.size_push]
    rcases List.mem_cons.mp hb with rfl | hb
    · exact Nat.lt_succ_self _
    · rcases List.mem_cons.mp hb with rfl | hb
      · exact Nat.lt_succ_of_lt hlt
      · cases hb
  · refine hk b o (fun hm => ?_) (Heap.get?_push_of_some _ e)
    rcases List.mem_cons.mp hm with e1 | hm
    · exact absurd (e1 ▸ Heap.lt_size e) (Nat.lt_irrefl _)
    · cases hm
theorem sum_tup0 (hh : A.handled = none) (hl : s.heap.IsTuple l (intItems xs))
    (h : ∀ h' tk t', (∀ b o, s.heap.get? b = some o → h'.get? b = some o) → Q (.int (preSum (numAt xs) xs.size) t') { s with heap := h', toks := tk }) :
    wpAny (model prog w) A (call (.builtin "sum") [.ref l]) Q E s := by
  refine call_sum_walkG (it_tup hl fun s₂ e st hfp hne old => ?_)
  subst e
  refine ⟨_, _, _, _, _, _, numAt xs, rfl, Walks.tuple (A := A.in1) hh _ l hne (intItems xs), st, hfp, (fun _ _ => intItems_at), fun h' tk t' hk => ?_⟩
  have := h h' tk t' (old h' hk)
  simpa [intItems] using this
theorem sum_tup (hh : A.handled = none) (hl : s.heap.IsTuple l its.toArray) (hi : IntsAre its ns)
    (h : ∀ h' tk t', (∀ b o, s.heap.get? b = some o → h'.get? b = some o) → Q (.int ns.sum t') { s with heap := h', toks := tk }) : wpAny (model prog w) A (call (.builtin "sum") [.ref l]) Q E s := by
  obtain ⟨xs, e⟩ := hi.allInts.items
  have hn : numsOf (intItems xs).toList = ns := by rw [← e]; exact hi.numsOf
  rw [nums_intItems] at hn
  rw [e] at hl
  refine sum_tup0 hh hl fun h' tk t' hk => ?_
  have q := h h' tk t' hk
  rw [preSum_eq, List.take_of_length_le (by simp), hn]
  exact q
theorem max_tup (hh : A.handled = none) (hl : s.heap.IsTuple l its.toArray) (hi : IntsAre its ns) (hne : 0 < ns.length)
    (h : ∀ h' tk M t', (∀ b o, s.heap.get? b = some o → h'.get? b = some o) → M ∈ ns → (∀ a, a ∈ ns → a ≤ M) → Q (.int M t') { s with heap := h', toks := tk }) : wpAny (model prog w) A (call (.builtin "max") [.ref l]) Q E s := by
  obtain ⟨xs, e⟩ := hi.allInts.items
  have hn : numsOf (intItems xs).toList = ns := by rw [← e]; exact hi.numsOf
  rw [nums_intItems] at hn
  subst hn
  rw [e] at hl
  have hsz : 0 < xs.size := by simpa using hne
  refine call_max_walk (it_tup hl fun s₂ e st hfp hne old => ?_)
  subst e
  refine ⟨_, _, _, _, _, _, _, rfl, Walks.tuple (A := A.in1) hh _ l hne (intItems xs), st, hfp, by simpa [intItems] using hsz, CmpOf.ints_gt (numAt xs) (fun _ _ => intItems_at), fun v h' tk hP hk => ?_⟩
  have hP : (intItems xs)[argBest (fun i j => decide (numAt xs i > numAt xs j)) (xs.size - 1)]? = some v := by simpa [intItems] using hP
  obtain ⟨t, rfl⟩ := intItems_at hP
  obtain ⟨h1, h2⟩ := argBest_gt (numAt xs) (xs.size - 1)
  refine h h' tk _ t (old h' hk) ?_ fun a ha => ?_
  · rw [numAt_eq]
    exact PySem.getD_mem (by rw [List.length_map, Array.length_toList]; omega)
  · obtain ⟨j, hj, rfl⟩ := mem_getD ha
    rw [List.length_map, Array.length_toList] at hj
    rw [← numAt_eq]
    exact h2 j (by omega)
theorem min_tup (hh : A.handled = none) (hl : s.heap.IsTuple l its.toArray) (hi : IntsAre its ns) (hne : 0 < ns.length)
    (h : ∀ h' tk M t', (∀ b o, s.heap.get? b = some o → h'.get? b = some o) → M ∈ ns → (∀ a, a ∈ ns → M ≤ a) → Q (.int M t') { s with heap := h', toks := tk }) : wpAny (model prog w) A (call (.builtin "min") [.ref l]) Q E s := by
  obtain ⟨xs, e⟩ := hi.allInts.items
  have hn : numsOf (intItems xs).toList = ns := by rw [← e]; exact hi.numsOf
  rw [nums_intItems] at hn
  subst hn
  rw [e] at hl
  have hsz : 0 < xs.size := by simpa using hne
  refine call_min_walk (it_tup hl fun s₂ e st hfp hne old => ?_)
  subst e
  refine ⟨_, _, _, _, _, _, _, rfl, Walks.tuple (A := A.in1) hh _ l hne (intItems xs), st, hfp, by simpa [intItems] using hsz, CmpOf.ints_lt (numAt xs) (fun _ _ => intItems_at), fun v h' tk hP hk => ?_⟩
  have hP : (intItems xs)[argBest (fun i j => decide (numAt xs i < numAt xs j)) (xs.size - 1)]? = some v := by simpa [intItems] using hP
  obtain ⟨t, rfl⟩ := intItems_at hP
  obtain ⟨h1, h2⟩ := argBest_lt (numAt xs) (xs.size - 1)
  refine h h' tk _ t (old h' hk) ?_ fun a ha => ?_
  · rw [numAt_eq]
    exact PySem.getD_mem (by rw [List.length_map, Array.length_toList]; omega)
  · obtain ⟨j, hj, rfl⟩ := mem_getD ha
    rw [List.length_map, Array.length_toList] at hj
    rw [← numAt_eq]
    exact h2 j (by omega)
end
/-! ### built-in functions -/
theorem mem_max : ∀ {ns : List Int} {m : Int}, maxL ns = some m → m ∈ ns ∧ ∀ y ∈ ns, y ≤ m
  | x :: r, m, h => by
    have key : ∀ (r : List Int) (x : Int), (r.foldl max x = x ∨ r.foldl max x ∈ r) ∧ x ≤ r.foldl max x ∧ ∀ y ∈ r, y ≤ r.foldl max x := by
      intro r
      induction r with
      | nil => intro x; exact ⟨.inl rfl, Int.le_refl _, by simp⟩
      | cons a r ih =>
        intro x
        obtain ⟨h1, h2, h3⟩ := ih (max x a)
        simp only [List.foldl_cons]
        refine ⟨?_, by omega, fun y hy => ?_⟩
        · rcases h1 with h1 | h1
          · rw [h1]
            by_cases hx : x ≤ a
            · right; rw [Int.max_eq_right hx]; exact List.mem_cons_self
            · left; exact Int.max_eq_left (by omega)
          · right; exact List.mem_cons_of_mem _ h1
        · rcases List.mem_cons.mp hy with rfl | hy
          · omega
          · exact h3 y hy
    obtain ⟨h1, h2, h3⟩ := key r x
    cases h
    refine ⟨?_, fun y hy => ?_⟩
    · rcases h1 with h1 | h1
      · rw [h1]; exact List.mem_cons_self
      · exact List.mem_cons_of_mem _ h1
    · rcases List.mem_cons.mp hy with rfl | hy
      · exact h2
      · exact h3 y hy
theorem mem_min : ∀ {ns : List Int} {m : Int}, minL ns = some m → m ∈ ns ∧ ∀ y ∈ ns, m ≤ y
  | x :: r, m, h => by
    have key : ∀ (r : List Int) (x : Int), (r.foldl min x = x ∨ r.foldl min x ∈ r) ∧ r.foldl min x ≤ x ∧ ∀ y ∈ r, r.foldl min x ≤ y := by
      intro r
      induction r with
      | nil => intro x; exact ⟨.inl rfl, Int.le_refl _, by simp⟩
      | cons a r ih =>
        intro x
        obtain ⟨h1, h2, h3⟩ := ih (min x a)
        simp only [List.foldl_cons]
        refine ⟨?_, by omega, fun y hy => ?_⟩
        · rcases h1 with h1 | h1
          · rw [h1]
            by_cases hx : a ≤ x
            · right; rw [Int.min_eq_right hx]; exact List.mem_cons_self
            · left; exact Int.min_eq_left (by omega)
          · right; exact List.mem_cons_of_mem _ h1
        · rcases List.mem_cons.mp hy with rfl | hy
          · omega
          · exact h3 y hy
    obtain ⟨h1, h2, h3⟩ := key r x
    cases h
    refine ⟨?_, fun y hy => ?_⟩
    · rcases h1 with h1 | h1
      · rw [h1]; exact List.mem_cons_self
      · exact List.mem_cons_of_mem _ h1
    · rcases List.mem_cons.mp hy with rfl | hy
      · exact h2
      · exact h3 y hy
def rC (K : Frg) (g : List P → Rs P) : List V → Hp → VK → Prop := fun vs H Q => ∃ (Zo : Addr → Prop) (ps : List P) (p : P), (∀ a, H a = none → ¬ Zo a) ∧ Reps K Zo H vs ps ∧ g ps = .ok p ∧ ∀ w H', Same H H' → Rep K Zo H' w p → Q w H'
/-- the function's object -/
def bltF : Blt → Value
  | .len => .builtin "len" | .tuple => .type "tuple" | .list => .type "list" | .int => .type "int" | .min2 => .builtin "min" | .max2 => .builtin "max" | .min1 => .builtin "min" | .max1 => .builtin "max"
  | .sum => .builtin "sum" | .all => .builtin "all" | .any => .builtin "any" | .abs => .builtin "abs" | .str => .type "str" | _ => .builtin "isinstance"
def bltIs : Blt → Option String
  | .isInt => some "int" | .isBool => some "bool" | .isStr => some "str" | .isTuple => some "tuple" | .isList => some "list" | _ => none
section
variable {X : Cx}
theorem Reps.one {K : Frg} {Zo : Addr → Prop} {H : Hp} {vs : List V} {p : P} (r : Reps K Zo H vs [p]) : ∃ v, vs = [v] ∧ Rep K Zo H v p := by
  cases r with
  | cons r1 r2 => cases r2; exact ⟨_, rfl, r1⟩
theorem Reps.two {K : Frg} {Zo : Addr → Prop} {H : Hp} {vs : List V} {p q : P} (r : Reps K Zo H vs [p, q]) : ∃ v u, vs = [v, u] ∧ Rep K Zo H v p ∧ Rep K Zo H u q := by
  cases r with
  | cons r1 r2 =>
    obtain ⟨u, rfl, h⟩ := r2.one
    exact ⟨_, _, rfl, r1, h⟩
theorem call_P (hc : X.calm = true) (b : Blt) (hb : bltIs b = none) (hs : b ≠ .str) : CallR X (bltF b) (rC X.K (bltP b)) := by
  intro pins s σ H vs us Q I r1 h
  obtain ⟨Zo, ps, p, fr, rx, e, q⟩ := h
  have fin : ∀ {w : V}, Rep X.K Zo H w p → Q w H := fun r => q _ _ (keepAll H) r
  have hin : ∀ {ns : List Int} {us : List Value}, Vals (ns.map V.int) us → IntsAre us ns := fun r => intsAre_of r
  cases b with
  | len =>
    cases ps with
    | nil => cases e
    | cons x ps =>
      cases ps with
      | nil =>
        obtain ⟨v, rfl, rv⟩ := rx.one
        cases x with
        | tup xs =>
          cases e
          obtain ⟨a, ws, rfl, h1, h2⟩ := rv.seqT
          exact call_len_seq pins s σ H _ _ Q I r1 ⟨a, ws, rfl, .inr h1, by rw [h2.length]; exact fin (.int _)⟩
        | lst xs =>
          cases e
          obtain ⟨a, ws, rfl, h1, h2⟩ := rv.seqL
          exact call_len_seq pins s σ H _ _ Q I r1 ⟨a, ws, rfl, .inl h1, by rw [h2.length]; exact fin (.int _)⟩
        | scr xs =>
          cases e
          obtain ⟨a, ws, rfl, h1, h2⟩ := rv.seqS
          exact call_len_seq pins s σ H _ _ Q I r1 ⟨a, ws, rfl, .inl h1, by rw [h2.length]; exact fin (.int _)⟩
        | str x =>
          obtain ⟨c, e⟩ := Rs.when_ok e
          cases e
          cases rv
          exact call_len_str pins s σ H _ _ Q I r1 ⟨x, rfl, by rw [big_eq]; exact of_decide_eq_true c, fin (.int _)⟩
        | _ => cases e
      | cons _ _ => cases x <;> cases e
  | tuple =>
    cases ps with
    | nil => cases e
    | cons x ps =>
      cases ps with
      | nil =>
        obtain ⟨v, rfl, rv⟩ := rx.one
        cases x with
        | tup xs =>
          cases e
          obtain ⟨a, ws, rfl, h1, h2⟩ := rv.seqT
          exact call_tuple_of pins s σ H _ _ Q I r1 ⟨a, ws, rfl, .inr ⟨h1, fin rv⟩⟩
        | lst xs =>
          cases e
          obtain ⟨a, ws, rfl, h1, h2⟩ := rv.seqL
          exact call_tuple_of pins s σ H _ _ Q I r1 ⟨a, ws, rfl, .inl ⟨h1, fun l hl => q _ _ (same_upd hl) (tupNew fr hl h2)⟩⟩
        | _ => cases e
      | cons _ _ => cases x <;> cases e
  | list =>
    cases ps with
    | nil => cases e
    | cons x ps =>
      cases ps with
      | nil =>
        obtain ⟨v, rfl, rv⟩ := rx.one
        cases x with
        | tup xs =>
          cases e
          obtain ⟨a, ws, rfl, h1, h2⟩ := rv.seqT
          exact call_list_of pins s σ H _ _ Q I r1 ⟨a, ws, rfl, .inr h1, fun l hl => q _ _ (same_upd hl) (lstNew fr hl h2)⟩
        | lst xs =>
          cases e
          obtain ⟨a, ws, rfl, h1, h2⟩ := rv.seqL
          exact call_list_of pins s σ H _ _ Q I r1 ⟨a, ws, rfl, .inl h1, fun l hl => q _ _ (same_upd hl) (lstNew fr hl h2)⟩
        | _ => cases e
      | cons _ _ => cases x <;> cases e
  | int =>
    cases ps with
    | nil => cases e
    | cons x ps =>
      cases ps with
      | nil =>
        obtain ⟨v, rfl, rv⟩ := rx.one
        cases x with
        | int i => cases e; cases rv; exact call_int1 pins s σ H _ _ Q I r1 (.inl ⟨i, rfl, fin (.int _)⟩)
        | bl b => cases e; cases rv; exact call_int1 pins s σ H _ _ Q I r1 (.inr ⟨b, rfl, fin (.int _)⟩)
        | _ => cases e
      | cons _ _ => cases x <;> cases e
  | min2 =>
    match ps, e with
    | [.int i, .int j], e =>
      cases e
      obtain ⟨v, u, rfl, r2, r3⟩ := rx.two
      cases r2; cases r3
      refine call_min2 hc pins s σ H _ _ Q I r1 ⟨i, j, rfl, ?_⟩
      rw [show (if j < i then j else i) = min i j by omega]
      exact fin (.int _)
  | max2 =>
    match ps, e with
    | [.int i, .int j], e =>
      cases e
      obtain ⟨v, u, rfl, r2, r3⟩ := rx.two
      cases r2; cases r3
      refine call_max2 hc pins s σ H _ _ Q I r1 ⟨i, j, rfl, ?_⟩
      rw [show (if j > i then j else i) = max i j by omega]
      exact fin (.int _)
  | min1 =>
    match ps, e with
    | [x], e =>
      obtain ⟨v, rfl, rv⟩ := rx.one
      replace e : ((asS x).bind fun xs => match (intsL xs).bind minL with | some m => .ok (.int m) | none => .bad) = Rs.ok p := e
      cases hs : asS x with
      | ok xs =>
        rw [hs] at e
        simp only [Rs.bind_ok] at e
        cases hi : intsL xs with
        | none => rw [hi] at e; cases e
        | some ns =>
          rw [hi] at e
          simp only [Option.bind_some] at e
          cases hm : minL ns with
          | none => rw [hm] at e; cases e
          | some m =>
            rw [hm] at e
            cases e
            obtain ⟨a, ws, rfl, h1, h2⟩ := rv.seq hs
            have hw := h2.ints hi
            subst hw
            obtain ⟨m1, m2⟩ := mem_min hm
            have hne : 0 < ns.length := List.length_pos_of_mem m1
            have uq : ∀ M, M ∈ ns → (∀ y ∈ ns, M ≤ y) → M = m := fun M a b => Int.le_antisymm (b m m1) (m2 M a)
            rcases h1 with h1 | h1
            · exact cr_min hc pins s σ H _ _ Q I r1 ⟨a, ns, rfl, h1, hne, fun M a b => by rw [uq M a b]; exact fin (.int _)⟩
            · obtain ⟨its, rv', ht, _⟩ := I.tuple h1
              rw [Vals.ref1 r1]
              exact min_tup (I.ok.hd hc) (show s.heap.IsTuple a its.toArray from ht) (hin rv') hne fun h' tk M t' hk a b => ⟨.int M, H, I.kept hk, ⟨_, rfl⟩, by rw [uq M a b]; exact fin (.int _)⟩
      | _ => rw [hs] at e; cases e
  | max1 =>
    match ps, e with
    | [x], e =>
      obtain ⟨v, rfl, rv⟩ := rx.one
      replace e : ((asS x).bind fun xs => match (intsL xs).bind maxL with | some m => .ok (.int m) | none => .bad) = Rs.ok p := e
      cases hs : asS x with
      | ok xs =>
        rw [hs] at e
        simp only [Rs.bind_ok] at e
        cases hi : intsL xs with
        | none => rw [hi] at e; cases e
        | some ns =>
          rw [hi] at e
          simp only [Option.bind_some] at e
          cases hm : maxL ns with
          | none => rw [hm] at e; cases e
          | some m =>
            rw [hm] at e
            cases e
            obtain ⟨a, ws, rfl, h1, h2⟩ := rv.seq hs
            have hw := h2.ints hi
            subst hw
            obtain ⟨m1, m2⟩ := mem_max hm
            have hne : 0 < ns.length := List.length_pos_of_mem m1
            have uq : ∀ M, M ∈ ns → (∀ y ∈ ns, y ≤ M) → M = m := fun M a b => Int.le_antisymm (m2 M a) (b m m1)
            rcases h1 with h1 | h1
            · exact cr_max hc pins s σ H _ _ Q I r1 ⟨a, ns, rfl, h1, hne, fun M a b => by rw [uq M a b]; exact fin (.int _)⟩
            · obtain ⟨its, rv', ht, _⟩ := I.tuple h1
              rw [Vals.ref1 r1]
              exact max_tup (I.ok.hd hc) (show s.heap.IsTuple a its.toArray from ht) (hin rv') hne fun h' tk M t' hk a b => ⟨.int M, H, I.kept hk, ⟨_, rfl⟩, by rw [uq M a b]; exact fin (.int _)⟩
      | _ => rw [hs] at e; cases e
  | sum =>
    match ps, e with
    | [x], e =>
      obtain ⟨v, rfl, rv⟩ := rx.one
      replace e : ((asS x).bind fun xs => match intsL xs with | some ns => .ok (.int ns.sum) | none => .bad) = Rs.ok p := e
      cases hs : asS x with
      | ok xs =>
        rw [hs] at e
        simp only [Rs.bind_ok] at e
        cases hi : intsL xs with
        | none => rw [hi] at e; cases e
        | some ns =>
          rw [hi] at e
          cases e
          obtain ⟨a, ws, rfl, h1, h2⟩ := rv.seq hs
          have hw := h2.ints hi
          subst hw
          rcases h1 with h1 | h1
          · exact cr_sum hc pins s σ H _ _ Q I r1 ⟨a, ns, rfl, h1, fin (.int _)⟩
          · obtain ⟨its, rv', ht, _⟩ := I.tuple h1
            rw [Vals.ref1 r1]
            exact sum_tup (I.ok.hd hc) (show s.heap.IsTuple a its.toArray from ht) (hin rv') fun h' tk t' hk => ⟨.int ns.sum, H, I.kept hk, ⟨_, rfl⟩, fin (.int _)⟩
      | _ => rw [hs] at e; cases e
  | all =>
    match ps, e with
    | [.lst xs], e =>
      obtain ⟨v, rfl, rv⟩ := rx.one
      replace e : (match boolsL xs with | some bs => .ok (.bl (bs.all id)) | none => .bad) = Rs.ok p := e
      cases hi : boolsL xs with
      | none => rw [hi] at e; cases e
      | some bs =>
        rw [hi] at e
        cases e
        obtain ⟨a, ws, rfl, h1, h2⟩ := rv.seqL
        have hw := h2.bools hi
        subst hw
        exact cr_all hc pins s σ H _ _ Q I r1 ⟨a, bs, rfl, h1, fin (.bl _)⟩
  | any =>
    match ps, e with
    | [.lst xs], e =>
      obtain ⟨v, rfl, rv⟩ := rx.one
      replace e : (match boolsL xs with | some bs => .ok (.bl (bs.any id)) | none => .bad) = Rs.ok p := e
      cases hi : boolsL xs with
      | none => rw [hi] at e; cases e
      | some bs =>
        rw [hi] at e
        cases e
        obtain ⟨a, ws, rfl, h1, h2⟩ := rv.seqL
        have hw := h2.bools hi
        subst hw
        exact cr_any hc pins s σ H _ _ Q I r1 ⟨a, bs, rfl, h1, fin (.bl _)⟩
  | abs =>
    match ps, e with
    | [.int i], e =>
      cases e
      obtain ⟨v, rfl, rv⟩ := rx.one
      cases rv
      exact call_abs pins s σ H _ _ Q I r1 ⟨i, rfl, fin (.int _)⟩
  | str => exact absurd rfl hs
  | _ => cases hb
end
end PL
end

section
set_option Elab.async false
set_option linter.all false
set_option maxRecDepth 100000
set_option maxHeartbeats 2000000
/-! PLTxt: the language's text against the program's: names, targets, what is walked. -/
namespace PL
open PySem PySem.Spec
open PyProof.Rows
open L2 hiding start

abbrev Nms := List (Str × NameKind)
/-- the names of a def's slots; the names of defs, constants, own exceptions by number; how many constants there are -/
structure Pg where
  fnm : Nat → Str
  gnm : Nat → Str
  cnm : Nat → Str
  cf : Nat → List Str
  cok : Nat → Bool
  ng : Nat
  D : Nat → Option Fn
  G : Nat → P
structure Tx where
  N : List Str
  p : Pg
def visB (sc : Nms) (x : Str) : Bool := match sc.lookup x with | some .local => true | some .cell => true | some .free => true | _ => false
def locB (sc : Nms) (x : Str) : Bool := match sc.lookup x with | some .local => true | some .cell => true | _ => false
def glB (sc : Nms) (x : Str) : Bool := match sc.lookup x with | some .globalImplicit => true | _ => false
def nmOk (x : Str) : Bool := !(x == ("__debug__" : Str)) && (!(x == ("__classdict__" : Str)) && !(x == ("__name__" : Str)))
def slotB (T : Tx) (sc : Nms) (i : Nat) (x : Str) : Bool := decide (T.N[i]? = some x) && (visB sc x && nmOk x)
def storB (T : Tx) (sc : Nms) (i : Nat) (x : Str) : Bool := decide (T.N[i]? = some x) && (locB sc x && nmOk x)
def constB : P → Const → Bool
  | .int i, .int j => decide (i = j)
  | .str x, .str y => decide (x = y)
  | .bl a, .bool b => a == b
  | .non, .none => true
  | _, _ => false
def bltN : Blt → Str
  | .len => "len" | .tuple => "tuple" | .list => "list" | .int => "int" | .min2 => "min" | .max2 => "max" | .min1 => "min" | .max1 => "max"
  | .sum => "sum" | .all => "all" | .any => "any" | .abs => "abs" | .str => "str" | _ => "isinstance"
def builtinNames : List Str := ["len", "tuple", "list", "int", "min", "max", "sum", "all", "any", "abs", "str", "isinstance", "bool", "range", "zip", "enumerate"]
/-- not a starred one, a slice, a set display -/
def plainB : Expr → Bool
  | .Starred _ _ => false
  | .Slice _ _ _ _ => false
  | .Set _ _ _ => false
  | _ => true
def plainsB : List Expr → Bool
  | [] => true
  | e :: r => plainB e && plainsB r
/-- a comprehension's own slots: their names -/
def ownP (T : Tx) (own : List Nat) : List (Str × Nat) := own.map fun i => (T.N.getD i (PySem.Str.ofString ""), i)
def uniqB : Nms → Bool
  | [] => true
  | (x, _) :: r => (r.all fun y => !(decide (y.1 = x))) && uniqB r
def blkB (T : Tx) (sc : Nms) (scope : Scope) (own : List Nat) : Bool :=
  decide (scope.kind = .function) && (uniqB scope.names && ((ownP T own).all (fun p => decide (T.N[p.2]? = some p.1)) &&
    ((scope.names.all fun y => match y.2 with | .free => (match sc.lookup y.1 with | some .cell => true | some .free => true | _ => false) | _ => true) &&
     scope.names.all fun y => match y.2 with | .local => (ownP T own).any (fun p => decide (p.1 = y.1)) || T.N.all (fun z => !(decide (z = y.1))) | .cell => (ownP T own).any (fun p => decide (p.1 = y.1)) || T.N.all (fun z => !(decide (z = y.1))) | _ => true)))
def inL (own : List Nat) (i : Nat) : Bool := own.any fun j => decide (j = i)
def slotsT : Tg → List Nat
  | .v i => [i]
  | .pr a b => slotsT a ++ slotsT b
  | .tr a b c => slotsT a ++ (slotsT b ++ slotsT c)
  | .qd a b c d => slotsT a ++ (slotsT b ++ (slotsT c ++ slotsT d))
def trT (T : Tx) (sc : Nms) : Tg → Expr → Bool
  | .v i, .Name x _ => storB T sc i x
  | .pr a b, .Tuple [ea, eb] _ _ => trT T sc a ea && trT T sc b eb
  | .tr a b c, .Tuple [ea, eb, ec] _ _ => trT T sc a ea && (trT T sc b eb && trT T sc c ec)
  | .qd a b c d, .Tuple [ea, eb, ec, ed] _ _ => trT T sc a ea && (trT T sc b eb && (trT T sc c ec && trT T sc d ed))
  | _, _ => false
def tupB : Expr → Bool
  | .Tuple _ _ _ => true
  | _ => false

mutual
def trE (T : Tx) : Nms → IE → Expr → Bool
  | sc, .v i, .Name x _ => slotB T sc i x
  | _, .c p, .Constant k _ _ => constB p k
  | _, .c (.dic []), .Dict [] [] _ => true
  | sc, .g k, .Name x _ => glB sc x && (nmOk x && (decide (T.p.gnm k = x) && decide (k < T.p.ng)))
  | sc, .bin o a b, .BinOp ea op eb _ => decide (op = bopE o) && (trE T sc a ea && trE T sc b eb)
  | sc, .neg a, .UnaryOp op ea _ => decide (op = .USub) && trE T sc a ea
  | sc, .not a, .UnaryOp op ea _ => decide (op = .Not) && trE T sc a ea
  | sc, .cmp o a b, .Compare ea [op] [eb] _ => decide (op = copE o) && (trE T sc a ea && (trE T sc b eb && plainB eb))
  | sc, .inv neg a i, .Compare ea [op] [.Name x _] _ => decide (op = if neg then .NotIn else .In) && (trE T sc a ea && slotB T sc i x)
  | sc, .chain o o' a b c, .Compare ea [op, op'] [eb, ec] _ => decide (op = copE o) && (decide (op' = copE o') && (trE T sc a ea && (trE T sc b eb && (trE T sc c ec && plainB ec))))
  | sc, .band es, .BoolOp op vs _ => decide (op = .And) && trEs T sc es vs
  | sc, .bor es, .BoolOp op vs _ => decide (op = .Or) && trEs T sc es vs
  | sc, .ite c a b, .IfExp ec ea eb _ => trE T sc c ec && (trE T sc a ea && trE T sc b eb)
  | sc, .tup es, .Tuple vs _ _ => decide (vs.length ≤ big) && (trEs T sc es vs && plainsB vs)
  | sc, .lst es, .List vs _ => decide (vs.length ≤ big) && (trEs T sc es vs && plainsB vs)
  | sc, .sub a i, .Subscript ea ei _ => trE T sc a ea && (trE T sc i ei && plainB ei)
  | sc, .subv i x, .Subscript (.Name y _) ei _ => slotB T sc i y && (trE T sc x ei && plainB ei)
  | sc, .lenv i, .Call (.Name f _) [.Name x _] [] _ => glB sc f && (decide (f = "len") && slotB T sc i x)
  | sc, .lrng it, .Call (.Name f _) [r] [] _ => glB sc f && (decide (f = "list") && trR T sc it r)
  | sc, .slc a lo hi, .Subscript ea (.Slice l h none _) _ => trE T sc a ea && (trO T sc lo l && trO T sc hi h)
  | sc, .call f es, .Call (.Name x _) (e :: r) [] _ => glB sc x && (nmOk x && (decide (T.p.fnm f = x) && ((T.p.D f).isSome && (trEs T sc es (e :: r) && plainsB (e :: r)))))
  | sc, .blt f es, .Call (.Name x _) (e :: r) [] _ => glB sc x && (match bltIs f with
    | none => decide (x = bltN f) && (decide (bltF f ≠ .type "str") && (trEs T sc es (e :: r) && plainsB (e :: r)))
    | some ty => match es, e, r with
      | .cons a .nil, ea, [.Name y _] => decide (x = "isinstance") && (glB sc y && (decide (y = PySem.Str.ofString ty) && (trE T sc a ea && plainB ea)))
      | _, _, _ => false)
  | sc, .comp e t own it c, .ListComp elt [⟨tg, iter, ifs, 0⟩] scope _ => trI T sc tg it iter && (blkB T sc scope own && (trT T scope.names t tg && ((slotsT t).all (inL own) && (trE T scope.names e elt && trC T scope.names c ifs))))
  | sc, .comp2 e t own it t2 own2 it2 c, .ListComp elt [⟨tg, iter, [], 0⟩, ⟨tg2, iter2, ifs, 0⟩] scope _ => trI T sc tg it iter && (blkB T sc scope own && (trT T scope.names t tg && ((slotsT t).all (inL own) && (own2.all (inL own) && (trI T scope.names tg2 it2 iter2 &&
      (trT T scope.names t2 tg2 && ((slotsT t2).all (inL own2) && (trE T scope.names e elt && trC T scope.names c ifs))))))))
  | _, _, _ => false
def trEs (T : Tx) : Nms → IEs → List Expr → Bool
  | _, .nil, [] => true
  | sc, .cons a as, e :: es => trE T sc a e && trEs T sc as es
  | _, _, _ => false
def trO (T : Tx) : Nms → IEo → Option Expr → Bool
  | _, .no, none => true
  | sc, .so a, some e => trE T sc a e
  | _, _, _ => false
def trC (T : Tx) : Nms → IEo → List Expr → Bool
  | _, .no, [] => true
  | sc, .so a, [e] => trE T sc a e
  | _, _, _ => false
def trI (T : Tx) : Nms → Expr → II → Expr → Bool
  | sc, _, .seq a, e => trE T sc a e && plainB e
  | sc, _, .rng1 a, .Call (.Name f _) [ea] [] _ => glB sc f && (decide (f = "range") && (trE T sc a ea && plainB ea))
  | sc, _, .rng2 a b, .Call (.Name f _) [ea, eb] [] _ => glB sc f && (decide (f = "range") && (trE T sc a ea && (trE T sc b eb && (plainB ea && plainB eb))))
  | sc, _, .rng3 a b c, .Call (.Name f _) [ea, eb, ec] [] _ => glB sc f && (decide (f = "range") && (trE T sc a ea && (trE T sc b eb && (trE T sc c ec && (plainB ea && (plainB eb && plainB ec))))))
  | sc, tg, .zip a b, .Call (.Name f _) [ea, eb] [] _ => glB sc f && (decide (f = "zip") && (tupB tg && (trE T sc a ea && (trE T sc b eb && (plainB ea && plainB eb)))))
  | sc, tg, .enum a, .Call (.Name f _) [ea] [] _ => glB sc f && (decide (f = "enumerate") && (tupB tg && (trE T sc a ea && plainB ea)))
  | _, _, _, _ => false
/-- a range as an argument -/
def trR (T : Tx) : Nms → II → Expr → Bool
  | sc, .rng1 a, .Call (.Name f _) [ea] [] _ => glB sc f && (decide (f = "range") && (trE T sc a ea && plainB ea))
  | sc, .rng2 a b, .Call (.Name f _) [ea, eb] [] _ => glB sc f && (decide (f = "range") && (trE T sc a ea && (trE T sc b eb && (plainB ea && plainB eb))))
  | _, _, _ => false
end
end PL
end

section
set_option Elab.async false
set_option linter.all false
set_option maxRecDepth 100000
set_option maxHeartbeats 4000000
/-! PLExp: evaluation of an expression of the language is that of the program's text. -/
namespace PL
open PySem PySem.Spec
open PyProof.Rows
open L2 hiding start

/-! ### plain expressions -/
section
variable {e : Expr} {es : List Expr} {env : Env} {pos : Pos}
theorem star_of (h : plainB e = true) : starEach (e :: es) env = (false, eval e env) :: starEach es env := by
  cases e <;> first | rfl | cases h
theorem noStar : ∀ {es : List Expr}, plainsB es = true → (backTo pos (starEach es env)).any (·.1) = false
  | [], _ => rfl
  | e :: es, h => by
    unfold plainsB at h
    rw [Bool.and_eq_true] at h
    rw [star_of h.1]
    show (false || (backTo pos (starEach es env)).any (·.1)) = false
    rw [noStar h.2]
    rfl
theorem plainIx_of (h : plainB e = true) : PlainIx e := fun o i => by
  cases e <;> first | rfl | cases h
theorem behind_of {op : CmpOp} (h : plainB e = true) : behindInMarks op e = false := by
  cases e <;> first | rfl | cases h
theorem fold_of (h : plainB e = true) : ∀ x, foldedSetIterable e env x = pure x := fun x => by
  cases e <;> first | rfl | cases h
end
theorem nm1 {x : Str} (h : nmOk x = true) : (x == ("__debug__" : Str)) = false := by
  unfold nmOk at h
  rw [Bool.and_eq_true] at h
  simpa using h.1
theorem nm2 {x : Str} (h : nmOk x = true) : (x == ("__classdict__" : Str)) = false := by
  unfold nmOk at h
  rw [Bool.and_eq_true, Bool.and_eq_true] at h
  simpa using h.2.1
theorem nm3 {x : Str} (h : nmOk x = true) : x ≠ ("__name__" : Str) := by
  unfold nmOk at h
  rw [Bool.and_eq_true, Bool.and_eq_true] at h
  simpa using h.2.2

/-! ### the surroundings -/
/-- the names of a block -/
structure Sc (N : List Str) (X : Cx) (sc : Nms) : Prop where
  N : X.N = N
  vis : ∀ x, visB sc x = true → Vis X.env.scope x
  gl : ∀ x, glB sc x = true → Gl X x
  st : ∀ x, locB sc x = true → Loc X.env.scope x ∧ (X.fn x = true ∨ X.env.scope.names.lookup x = some .local)
  cf : ∀ x, (sc.lookup x = some .cell ∨ sc.lookup x = some .free) → X.env.scope.names.lookup x = some .cell ∨ X.env.scope.names.lookup x = some .free
/-- the promise of a def that computes F -/
def spOf (C : Cls) (K : Frg) (F : List P → Rs P) : Sp := fun vs H Q E => ∃ (Z : Addr → Prop) (ps : List P), (∀ a, Z a → (H a).isSome = true) ∧ Reps K Z H vs ps ∧ match F ps with
  | .ok p => ∀ v H', Same H H' → Rep K Z H' v p → Q v H'
  | .exc x => ∀ cls d H', Same H H' → XRep C K Z H' x cls d → E cls d H'
  | .bad => False
def FnAt (p : Pg) (C : Cls) (X : Cx) (n f : Nat) : Prop :=
  ∃ (fa : Addr) (fd : FuncData) (ps : List Str), X.mg (p.fnm f) = some (.ref fa) ∧ PySem.W.keepIn X.K (.ref fa) = true ∧ Binds X.K fd ps [] ∧
    FnOk X.prog X.w X.K X.mg X.base (L2.CX X.prog X.w) n fa fd ps (spOf C X.K (callF p.D p.G n f))
def sclV : P → Option V
  | .int i => some (.int i) | .str x => some (.str x) | .bl b => some (.bl b) | .non => some .non | _ => none
/-- what the program's top has written, as far as a body at level n leans on it -/
structure Gb (p : Pg) (C : Cls) (n : Nat) (X : Cx) : Prop where
  calm : X.calm = true
  nd : X.N.Nodup
  room : Room n X.A
  no : ∀ x ∈ builtinNames, X.mg x = none
  fns : ∀ f d, p.D f = some d → FnAt p C X n f
  gs : ∀ k, k < p.ng → ∃ v u, sclV (p.G k) = some v ∧ X.mg (p.gnm k) = some u ∧ RelV v u
section
variable {p : Pg} {C : Cls} {n : Nat} {X : Cx} {sc : Nms} {N : List Str}
theorem Gb.hu (g : Gb p C n X) : X.A.units + 65 < cLine := by have := g.room.un; omega
theorem Gb.blk (g : Gb p C n X) (s : Shared) (H : Hp) (scope : Scope) (ce : Env) (fp : List Addr) : Gb p C n (X.blk s H scope ce fp) :=
  ⟨g.calm, g.nd, g.room, g.no, g.fns, g.gs⟩
theorem visB_iff {x : Str} (h : visB sc x = true) : sc.lookup x = some .local ∨ sc.lookup x = some .cell ∨ sc.lookup x = some .free := by
  unfold visB at h
  split at h <;> first | exact .inl ‹_› | exact .inr (.inl ‹_›) | exact .inr (.inr ‹_›) | cases h
theorem locB_iff {x : Str} (h : locB sc x = true) : sc.lookup x = some .local ∨ sc.lookup x = some .cell := by
  unfold locB at h
  split at h <;> first | exact .inl ‹_› | exact .inr ‹_› | cases h
theorem glB_iff {x : Str} (h : glB sc x = true) : sc.lookup x = some .globalImplicit := by
  unfold glB at h
  split at h
  · rename_i q
    exact q
  · cases h
theorem rel_free {sco : Scope} : ∀ {names : Nms} {x : Str}, names.lookup x = some .free →
    (relS ⟨.function, names, false, false, []⟩ sco).names.lookup x = some .free ∨ (relS ⟨.function, names, false, false, []⟩ sco).names.lookup x = some .cell
  | [], _, h => by simp at h
  | (m, j) :: r, x, h => by
    have ih := @rel_free sco r x
    have key : ∀ a : NameKind, (relS ⟨.function, (m, j) :: r, false, false, []⟩ sco).names.lookup x = some a ↔
        List.lookup x ((if (j == NameKind.free && sco.kind == .function && sco.names.lookup m == some .cell) = true then (m, NameKind.cell) else (m, j)) :: (relS ⟨.function, r, false, false, []⟩ sco).names) = some a := fun a => Iff.rfl
    rw [key, key]
    cases hx : x == m with
    | true =>
      rw [List.lookup_cons, hx] at h
      cases h
      by_cases hc : (NameKind.free == NameKind.free && sco.kind == .function && sco.names.lookup m == some .cell) = true
      · rw [if_pos hc]
        exact .inr (by rw [List.lookup_cons, hx])
      · rw [if_neg hc]
        exact .inl (by rw [List.lookup_cons, hx])
    | false =>
      rw [List.lookup_cons, hx] at h
      have q := ih h
      by_cases hc : (j == NameKind.free && sco.kind == .function && sco.names.lookup m == some .cell) = true
      · rw [if_pos hc, List.lookup_cons, hx]
        exact q
      · rw [if_neg hc, List.lookup_cons, hx]
        exact q
theorem rel_look {sco : Scope} (x : Str) (names : Nms) (k : NameKind) (h : names.lookup x = some k) :
    (relS ⟨.function, names, false, false, []⟩ sco).names.lookup x = some k ∨ (k = .free ∧ (relS ⟨.function, names, false, false, []⟩ sco).names.lookup x = some .cell) := by
  by_cases hk : k = .free
  · subst hk
    rcases rel_free (sco := sco) h with q | q
    · exact .inl q
    · exact .inr ⟨rfl, q⟩
  · exact .inl (lookup_relS_keep hk h)
theorem ce_look {scope : Scope} {cl : List (Str × Addr)} {a : Addr} {env : Env} {x : Str} {k : NameKind} (h : scope.names.lookup x = some k) :
    (compEnvC scope cl a env).scope.names.lookup x = some k ∨ (k = .free ∧ (compEnvC scope cl a env).scope.names.lookup x = some .cell) := by
  have e : (compEnvC scope cl a env).scope.names = (relS ⟨.function, scope.names, false, false, []⟩ env.scope).names := rfl
  rw [e]
  exact rel_look x scope.names k h
theorem Sc.blk (S : Sc N X sc) (s : Shared) (H : Hp) (scope : Scope) (cl : List (Str × Addr)) (a : Addr) (fp : List Addr) : Sc N (X.blk s H scope (compEnvC scope cl a X.env) fp) scope.names := by
  refine ⟨S.N, fun x h => ?_, fun x h => ?_, fun x h => ?_, fun x h => ?_⟩
  · rcases visB_iff h with q | q | q
    · rcases ce_look (cl := cl) (a := a) (env := X.env) q with z | ⟨z, _⟩
      · exact .inl z
      · cases z
    · rcases ce_look (cl := cl) (a := a) (env := X.env) q with z | ⟨z, _⟩
      · exact .inr (.inl z)
      · cases z
    · rcases ce_look (cl := cl) (a := a) (env := X.env) q with z | ⟨_, z⟩
      · exact .inr (.inr z)
      · exact .inr (.inl z)
  · rcases ce_look (cl := cl) (a := a) (env := X.env) (glB_iff h) with z | ⟨z, _⟩
    · exact z
    · cases z
  · rcases locB_iff h with q | q
    · rcases ce_look (cl := cl) (a := a) (env := X.env) q with z | ⟨z, _⟩
      · exact ⟨.inl z, .inr z⟩
      · cases z
    · rcases ce_look (cl := cl) (a := a) (env := X.env) q with z | ⟨z, _⟩
      · exact ⟨.inr z, .inl (by show (scope.names.lookup x == some .cell) = true; rw [q]; rfl)⟩
      · cases z
  · rcases h with q | q
    · rcases ce_look (cl := cl) (a := a) (env := X.env) q with z | ⟨z, _⟩
      · exact .inl z
      · cases z
    · rcases ce_look (cl := cl) (a := a) (env := X.env) q with z | ⟨_, z⟩
      · exact .inr z
      · exact .inl z
theorem slot_of {T : Tx} {i : Nat} {x : Str} (S : Sc T.N X sc) (h : slotB T sc i x = true) : X.N[i]? = some x ∧ Vis X.env.scope x ∧ nmOk x = true := by
  unfold slotB at h
  rw [Bool.and_eq_true, Bool.and_eq_true, decide_eq_true_iff] at h
  exact ⟨by rw [S.N]; exact h.1, S.vis _ h.2.1, h.2.2⟩
theorem stor_of {T : Tx} {i : Nat} {x : Str} (S : Sc T.N X sc) (h : storB T sc i x = true) : X.N[i]? = some x ∧ Loc X.env.scope x ∧ (X.fn x = true ∨ X.env.scope.names.lookup x = some .local) := by
  unfold storB at h
  rw [Bool.and_eq_true, Bool.and_eq_true, decide_eq_true_iff] at h
  exact ⟨by rw [S.N]; exact h.1, (S.st _ h.2.1).1, (S.st _ h.2.1).2⟩
theorem uniq_look : ∀ {names : Nms}, uniqB names = true → ∀ y ∈ names, names.lookup y.1 = some y.2
  | [], _, y, h => by simp at h
  | (x, k) :: r, hu, y, h => by
    unfold uniqB at hu
    rw [Bool.and_eq_true, List.all_eq_true] at hu
    rcases List.mem_cons.mp h with rfl | h
    · simp [List.lookup]
    · have q := hu.1 y h
      have e : (y.1 == x) = false := by simpa using q
      simp only [List.lookup, e]
      exact uniq_look hu.2 y h
theorem blk_of {T : Tx} {scope : Scope} {own : List Nat} (S : Sc T.N X sc) (h : blkB T sc scope own = true) : BlkOk X.N X.env.scope scope (ownP T own) := by
  unfold blkB at h
  rw [Bool.and_eq_true, Bool.and_eq_true, Bool.and_eq_true, Bool.and_eq_true, decide_eq_true_iff, List.all_eq_true, List.all_eq_true, List.all_eq_true] at h
  obtain ⟨h1, h2, h3, h4, h5⟩ := h
  refine ⟨h1, uniq_look h2, fun q hq => by rw [S.N]; simpa using h3 q hq, fun y hy e => ?_, fun y hy e => ?_⟩
  · have q := h4 y hy
    rw [e] at q
    apply S.cf
    revert q
    cases hl : sc.lookup y.1 with
    | none => intro q; cases q
    | some k => cases k <;> intro q <;> first | exact .inl rfl | exact .inr rfl | cases q
  · have q := h5 y hy
    have key : (((ownP T own).any fun p => decide (p.1 = y.1)) || T.N.all fun z => !(decide (z = y.1))) = true := by
      rcases e with e | e <;> (rw [e] at q; exact q)
    rw [Bool.or_eq_true, List.any_eq_true, List.all_eq_true] at key
    rcases key with ⟨z, hz, e2⟩ | key
    · exact .inl (List.mem_map.mpr ⟨z, hz, by simpa using e2⟩)
    · refine .inr fun hm => ?_
      rw [S.N] at hm
      have := key _ hm
      simp at this
theorem own_map {T : Tx} (own : List Nat) : (ownP T own).map (·.2) = own := by
  unfold ownP
  rw [List.map_map]
  conv => rhs; rw [← List.map_id own]
  rfl
end

/-! ### slots: set, wiped -/
section
variable {K : Frg} {Z : Addr → Prop} {O : List Addr} {H : Hp} {σ : L2.St} {ρ : Ev}
theorem EnvRep.set {v : V} {p : P} {i : Nat} (e : EnvRep K Z O H σ ρ) (r : Rep K (ZO Z O) H v p) (hi : i < ρ.length) : EnvRep K Z O H (σ.set i (some v)) (ρ.set i (.fz p)) := by
  refine ⟨by rw [List.length_set, List.length_set, e.len], fun j s h => ?_, fun j k s t a h1 h2 o1 o2 h3 h4 => ?_, e.own, e.zz⟩
  · by_cases hj : i = j
    · subst hj
      rw [List.getElem?_set_self hi] at h
      cases h
      exact ⟨some v, List.getElem?_set_self (by rw [e.len]; exact hi), .fz r⟩
    · rw [List.getElem?_set_ne hj] at h ⊢
      exact e.sl j s h
  · have nj : ∀ {j : Nat} {s : Sl}, (ρ.set i (.fz p))[j]? = some s → isOwn s = true → i ≠ j := fun {j s} h o z => by
      subst z
      rw [List.getElem?_set_self hi] at h
      cases h
      cases o
    have n1 := nj h1 o1
    have n2 := nj h2 o2
    rw [List.getElem?_set_ne n1] at h1 h3
    rw [List.getElem?_set_ne n2] at h2 h4
    exact e.one j k s t a h1 h2 o1 o2 h3 h4
theorem EnvRep.un1 {i : Nat} (o : Option V) (e : EnvRep K Z O H σ ρ) : EnvRep K Z O H (σ.set i o) (ρ.set i .un) := by
  refine ⟨by rw [List.length_set, List.length_set, e.len], fun j s h => ?_, fun j k s t a h1 h2 o1 o2 h3 h4 => ?_, e.own, e.zz⟩
  · by_cases hj : i = j
    · subst hj
      by_cases hi : i < ρ.length
      · rw [List.getElem?_set_self hi] at h
        cases h
        exact ⟨o, List.getElem?_set_self (by rw [e.len]; exact hi), .un⟩
      · rw [List.getElem?_eq_none (by rw [List.length_set]; omega)] at h
        cases h
    · rw [List.getElem?_set_ne hj] at h ⊢
      exact e.sl j s h
  · have nj : ∀ {j : Nat} {s : Sl}, (ρ.set i .un)[j]? = some s → isOwn s = true → i ≠ j := fun {j s} h o z => by
      subst z
      by_cases hi : i < ρ.length
      · rw [List.getElem?_set_self hi] at h
        cases h
        cases o
      · rw [List.getElem?_eq_none (by rw [List.length_set]; omega)] at h
        cases h
    have n1 := nj h1 o1
    have n2 := nj h2 o2
    rw [List.getElem?_set_ne n1] at h1 h3
    rw [List.getElem?_set_ne n2] at h2 h4
    exact e.one j k s t a h1 h2 o1 o2 h3 h4
theorem EnvRep.wiped (e : EnvRep K Z O H σ ρ) : ∀ own : List Nat, EnvRep K Z O H (wipe σ own) (wipeS own ρ)
  | [] => e
  | k :: ks => by
    unfold wipe wipeS
    exact (e.wiped ks).un1 none
/-- the slots forgotten on our side alone -/
theorem EnvRep.kill (e : EnvRep K Z O H σ ρ) : ∀ own : List Nat, EnvRep K Z O H σ (wipeS own ρ)
  | [] => e
  | k :: ks => by
    unfold wipeS
    have q := (e.kill ks).un1 (i := k) (σ.getD k none)
    by_cases hk : k < σ.length
    · have : σ.set k (σ.getD k none) = σ := by
        apply List.ext_getElem?
        intro j
        by_cases hj : k = j
        · subst hj
          rw [List.getElem?_set_self hk]
          simp [List.getD, hk]
        · rw [List.getElem?_set_ne hj]
      rw [this] at q
      exact q
    · rw [List.set_eq_of_length_le (by omega)] at q
      exact q
theorem wipeS_length (ρ : Ev) : ∀ ks : List Nat, (wipeS ks ρ).length = ρ.length
  | [] => rfl
  | k :: ks => by unfold wipeS; rw [List.length_set, wipeS_length ρ ks]
/-- beyond own nothing differs -/
def SameOut (own : List Nat) (σ σ' : L2.St) : Prop := σ'.length = σ.length ∧ ∀ i, i ∉ own → σ'[i]? = σ[i]?
theorem wipe_in {σ : L2.St} {i : Nat} : ∀ {vs : List Nat}, i ∈ vs → i < σ.length → (wipe σ vs)[i]? = some none
  | [], h, _ => by simp at h
  | v :: vs, h, hl => by
    unfold wipe
    by_cases hv : v = i
    · subst hv
      rw [List.getElem?_set_self (by rw [wipe_length]; exact hl)]
    · rw [List.getElem?_set_ne hv]
      rcases List.mem_cons.mp h with z | z
      · exact absurd z.symm hv
      · exact wipe_in z hl
theorem SameOut.wipe {own : List Nat} {σ σ' : L2.St} (s : SameOut own σ σ') : L2.wipe σ' own = L2.wipe σ own := by
  apply List.ext_getElem?
  intro i
  by_cases hi : i ∈ own
  · by_cases hl : i < σ.length
    · rw [wipe_in hi hl, wipe_in hi (by rw [s.1]; exact hl)]
    · rw [List.getElem?_eq_none (by rw [wipe_length, s.1]; omega), List.getElem?_eq_none (by rw [wipe_length]; omega)]
  · rw [wipe_out hi, wipe_out hi, s.2 i hi]
theorem wipe_wipe (σ : L2.St) (own : List Nat) : L2.wipe (L2.wipe σ own) own = L2.wipe σ own :=
  SameOut.wipe ⟨wipe_length _ _, fun _ hi => wipe_out hi⟩
end
end PL
end

section
set_option Elab.async false
set_option linter.all false
set_option maxRecDepth 100000
set_option maxHeartbeats 4000000
/-! PLItr: targets, and what a loop walks. -/
namespace PL
open PySem PySem.Spec
open PyProof.Rows
open L2 hiding start

/-! ### targets -/
def gT (K : Frg) (t : Tg) : TG := fun v σ H Q => ∃ Z ρ O p ρ', EnvRep K Z O H σ ρ ∧ Rep K (ZO Z O) H v p ∧ bindT t p ρ = .ok ρ' ∧ ∀ σ', EnvRep K Z O H σ' ρ' → SameOut (slotsT t) σ σ' → Q σ' H
theorem SameOut.rfl' {own : List Nat} {σ : L2.St} : SameOut own σ σ := ⟨rfl, fun _ _ => rfl⟩
theorem SameOut.comp {a b c : List Nat} {σ σ' σ'' : L2.St} (h1 : SameOut a σ σ') (h2 : SameOut b σ' σ'') (ha : ∀ i ∈ a, i ∈ c) (hb : ∀ i ∈ b, i ∈ c) : SameOut c σ σ'' :=
  ⟨h2.1.trans h1.1, fun i hi => (h2.2 i fun z => hi (hb i z)).trans (h1.2 i fun z => hi (ha i z))⟩
theorem asg_of {T : Tx} {sc : Nms} {t : Tg} {tg : Expr} {r : List Expr} {env : Env} (h : trT T sc t tg = true) : assignEach (tg :: r) env = (false, assign tg env) :: assignEach r env := by
  cases t <;> cases tg <;> first | rfl | cases h
theorem Rs.bind_ok_inv {α β : Type} {r : Rs α} {f : α → Rs β} {b : β} (h : r.bind f = .ok b) : ∃ a, r = .ok a ∧ f a = .ok b := by
  cases r with
  | ok a => exact ⟨a, rfl, h⟩
  | exc _ => cases h
  | bad => cases h
section
variable {X : Cx} {T : Tx} {sc : Nms}
theorem snd_T (S : Sc T.N X sc) (hc : X.calm = true) (hN : X.N.Nodup) : ∀ (t : Tg) (tg : Expr), trT T sc t tg = true → PG X tg (gT X.K t) := by
  intro t
  induction t with
  | v i =>
    intro tg h
    cases tg <;> first | (cases h; done) | skip
    rename_i x pos
    obtain ⟨h1, h2, h3⟩ := stor_of S h
    refine ⟨fun pins s σ H v u Q I r q => ?_⟩
    obtain ⟨Z, ρ, O, p, ρ', er, rp, e, q⟩ := q
    obtain ⟨c, e⟩ := Rs.when_ok e
    cases e
    refine (pg_name hN h1 h2 h3).run pins s σ H v u Q I r (q _ (er.set rp (of_decide_eq_true c)) ⟨List.length_set, fun j hj => ?_⟩)
    exact List.getElem?_set_ne fun z => hj (by simp [slotsT, z])
  | pr a b ia ib =>
    intro tg h
    cases tg <;> first | (cases h; done) | skip
    rename_i es k pos
    match es, h with
    | [ea, eb], h =>
      have h' : (trT T sc a ea && trT T sc b eb) = true := h
      rw [Bool.and_eq_true] at h'
      have e2 : assignEach [ea, eb] X.env = [(false, assign ea X.env), (false, assign eb X.env)] := by rw [asg_of h'.1, asg_of h'.2]; rfl
      have G := pg_tup (pos := pos) (k := k) hc (pgs_cons (ia ea h'.1) (pgs_cons (ib eb h'.2) pgs_nil (by rw [asg_of h'.2]; rfl)) (by rw [asg_of h'.1]; rfl)) (n := 2) (by rw [e2]; rfl) (by rw [e2]; rfl)
      refine ⟨fun pins s σ H v u Q I r q => G.run pins s σ H v u Q I r ?_⟩
      obtain ⟨Z, ρ, O, p, ρ', er, rp, e, q⟩ := q
      match p, e with
      | .tup [x, y], e =>
        obtain ⟨ρ1, e1, e⟩ := Rs.bind_ok_inv e
        obtain ⟨l, vs, rfl, hT, hr⟩ := rp.seqT
        obtain ⟨v1, v2, rfl, r1, r2⟩ := hr.two
        refine ⟨l, _, rfl, hT, rfl, v1, [v2], rfl, Z, ρ, O, x, ρ1, er, r1, e1, fun σ1 er1 so1 => ⟨v2, [], rfl, Z, ρ1, O, y, ρ', er1, r2, e, fun σ2 er2 so2 => ⟨rfl, q σ2 er2 (so1.comp so2 ?_ ?_)⟩⟩⟩ <;>
          (intro i hi; simp only [slotsT, List.mem_append]; simp [hi])
  | tr a b c ia ib ic =>
    intro tg h
    cases tg <;> first | (cases h; done) | skip
    rename_i es k pos
    match es, h with
    | [ea, eb, ec], h =>
      have h' : (trT T sc a ea && (trT T sc b eb && trT T sc c ec)) = true := h
      rw [Bool.and_eq_true, Bool.and_eq_true] at h'
      obtain ⟨ha, hb, hcc⟩ := h'
      have e2 : assignEach [ea, eb, ec] X.env = [(false, assign ea X.env), (false, assign eb X.env), (false, assign ec X.env)] := by rw [asg_of ha, asg_of hb, asg_of hcc]; rfl
      have G := pg_tup (pos := pos) (k := k) hc (pgs_cons (ia ea ha) (pgs_cons (ib eb hb) (pgs_cons (ic ec hcc) pgs_nil (by rw [asg_of hcc]; rfl)) (by rw [asg_of hb]; rfl)) (by rw [asg_of ha]; rfl)) (n := 3) (by rw [e2]; rfl) (by rw [e2]; rfl)
      refine ⟨fun pins s σ H v u Q I r q => G.run pins s σ H v u Q I r ?_⟩
      obtain ⟨Z, ρ, O, p, ρ', er, rp, e, q⟩ := q
      match p, e with
      | .tup [x, y, z], e =>
        obtain ⟨ρ1, e1, e⟩ := Rs.bind_ok_inv e
        obtain ⟨ρ2, e2, e⟩ := Rs.bind_ok_inv e
        obtain ⟨l, vs, rfl, hT, hr⟩ := rp.seqT
        cases hr with
        | cons r1 hr =>
          obtain ⟨v2, v3, rfl, r2, r3⟩ := hr.two
          refine ⟨l, _, rfl, hT, rfl, _, [v2, v3], rfl, Z, ρ, O, x, ρ1, er, r1, e1, fun σ1 er1 so1 => ⟨v2, [v3], rfl, Z, ρ1, O, y, ρ2, er1, r2, e2, fun σ2 er2 so2 => ⟨v3, [], rfl, Z, ρ2, O, z, ρ', er2, r3, e, fun σ3 er3 so3 =>
            ⟨rfl, q σ3 er3 ((so1.comp (c := slotsT (.tr a b c)) so2 ?_ ?_).comp so3 ?_ ?_)⟩⟩⟩⟩ <;> first | exact fun i hi => hi | (intro i hi; simp only [slotsT, List.mem_append]; simp [hi])
  | qd a b c d ia ib ic id =>
    intro tg h
    cases tg <;> first | (cases h; done) | skip
    rename_i es k pos
    match es, h with
    | [ea, eb, ec, ed], h =>
      have h' : (trT T sc a ea && (trT T sc b eb && (trT T sc c ec && trT T sc d ed))) = true := h
      rw [Bool.and_eq_true, Bool.and_eq_true, Bool.and_eq_true] at h'
      obtain ⟨ha, hb, hcc, hd⟩ := h'
      have e2 : assignEach [ea, eb, ec, ed] X.env = [(false, assign ea X.env), (false, assign eb X.env), (false, assign ec X.env), (false, assign ed X.env)] := by rw [asg_of ha, asg_of hb, asg_of hcc, asg_of hd]; rfl
      have G := pg_tup (pos := pos) (k := k) hc (pgs_cons (ia ea ha) (pgs_cons (ib eb hb) (pgs_cons (ic ec hcc) (pgs_cons (id ed hd) pgs_nil (by rw [asg_of hd]; rfl)) (by rw [asg_of hcc]; rfl)) (by rw [asg_of hb]; rfl)) (by rw [asg_of ha]; rfl)) (n := 4) (by rw [e2]; rfl) (by rw [e2]; rfl)
      refine ⟨fun pins s σ H v u Q I r q => G.run pins s σ H v u Q I r ?_⟩
      obtain ⟨Z, ρ, O, p, ρ', er, rp, e, q⟩ := q
      match p, e with
      | .tup [x, y, z, w], e =>
        obtain ⟨ρ1, e1, e⟩ := Rs.bind_ok_inv e
        obtain ⟨ρ2, e2, e⟩ := Rs.bind_ok_inv e
        obtain ⟨ρ3, e3, e⟩ := Rs.bind_ok_inv e
        obtain ⟨l, vs, rfl, hT, hr⟩ := rp.seqT
        cases hr with
        | cons r1 hr =>
          cases hr with
          | cons r2 hr =>
            obtain ⟨v3, v4, rfl, r3, r4⟩ := hr.two
            refine ⟨l, _, rfl, hT, rfl, _, _, rfl, Z, ρ, O, x, ρ1, er, r1, e1, fun σ1 er1 so1 => ⟨_, [v3, v4], rfl, Z, ρ1, O, y, ρ2, er1, r2, e2, fun σ2 er2 so2 => ⟨v3, [v4], rfl, Z, ρ2, O, z, ρ3, er2, r3, e3, fun σ3 er3 so3 => ⟨v4, [], rfl, Z, ρ3, O, w, ρ', er3, r4, e, fun σ4 er4 so4 =>
              ⟨rfl, q σ4 er4 (((so1.comp (c := slotsT (.qd a b c d)) so2 ?_ ?_).comp (c := slotsT (.qd a b c d)) so3 ?_ ?_).comp so4 ?_ ?_)⟩⟩⟩⟩⟩ <;> first | exact fun i hi => hi | (intro i hi; simp only [slotsT, List.mem_append]; simp [hi])
end

/-! ### what is walked -/
/-- the heap moves on: what is not blocked stays; what is blocked newly is new -/
def Mv (B : Addr → Prop) (H : Hp) (B' : Addr → Prop) (H' : Hp) : Prop := (∀ a o, ¬ B a → H a = some o → H' a = some o) ∧ ∀ a, B' a → B a ∨ H a = none
section
variable {K : Frg} {B B' B'' : Addr → Prop} {H H' H'' : Hp}
theorem Mv.rfl' : Mv B H B H := ⟨fun _ _ _ h => h, fun _ h => .inl h⟩
theorem Mv.same (s : Same H H') : Mv B H B H' := ⟨fun a o _ h => s a o h, fun _ h => .inl h⟩
theorem Mv.trans (m : Mv B H B' H') (n : Mv B' H' B'' H'') : Mv B H B'' H'' := by
  refine ⟨fun a o na h => ?_, fun a ha => ?_⟩
  · refine n.1 a o (fun z => ?_) (m.1 a o na h)
    rcases m.2 a z with q | q
    · exact na q
    · rw [h] at q; cases q
  · rcases n.2 a ha with z | z
    · exact m.2 a z
    · by_cases hO : B a
      · exact .inl hO
      · refine .inr ?_
        cases e : H a with
        | none => rfl
        | some o => rw [m.1 a o hO e] at z; cases z
theorem Mv.rep (m : Mv B H B' H') {v : V} {p : P} (r : Rep K B H v p) : Rep K B' H' v p := r.keep m.1 m.2
theorem Mv.reps (m : Mv B H B' H') {v : List V} {p : List P} (r : Reps K B H v p) : Reps K B' H' v p := r.keep m.1 m.2
structure IterRep (K : Frg) (B : Addr → Prop) (H : Hp) (J : It) (ps : List P) : Prop where
  len : ps.length ≤ big
  ex : ∃ (G : Hp → Prop) (Y : Nat → Hp → V → Hp → Prop), Walk J ps.length G Y ∧ (∀ B' H', Mv B H B' H' → G H') ∧
    ∀ i x B1 H1 H2, i < ps.length → Mv B H B1 H1 → (∀ a, H1 a = none → ¬ B1 a) → Y i H1 x H2 → Same H1 H2 ∧ ∃ p, ps[i]? = some p ∧ Rep K (B1) H2 x p
theorem iter_list {a : Addr} {vs : List V} {ps : List P} (h1 : ¬ B a) (h2 : H a = some (.lst vs)) (r : Reps K B H vs ps) (hz : ps.length ≤ big) : IterRep K B H (Itl K a) ps := by
  refine ⟨hz, fun H => SqL K H a vs, YAt vs, by rw [← r.length]; exact walk_list, fun B' H' m => .of (m.1 _ _ h1 h2), fun i x B1 H1 H2 hi m f y => ?_⟩
  obtain ⟨rfl, e⟩ := y
  obtain ⟨p, e1, r1⟩ := r.get' e
  exact ⟨fun _ _ h => h, p, e1, m.rep r1⟩
theorem iter_tup {a : Addr} {vs : List V} {ps : List P} (h1 : ¬ B a) (h2 : H a = some (.tup vs)) (r : Reps K B H vs ps) (hz : ps.length ≤ big) : IterRep K B H (Itt K a) ps := by
  refine ⟨hz, fun H => SqT K H a vs, YAt vs, by rw [← r.length]; exact walk_tup, fun B' H' m => .of (m.1 _ _ h1 h2), fun i x B1 H1 H2 hi m f y => ?_⟩
  obtain ⟨rfl, e⟩ := y
  obtain ⟨p, e1, r1⟩ := r.get' e
  exact ⟨fun _ _ h => h, p, e1, m.rep r1⟩
theorem rngL_len (lo : Int) (n : Nat) (c : Int) : (rngL lo n c).length = n := by simp [rngL]
theorem rngL_at {lo : Int} {n : Nat} {c : Int} {i : Nat} (h : i < n) : (rngL lo n c)[i]? = some (.int (lo + (i : Nat) * c)) := by simp [rngL, h]
theorem iter_rng {lo : Int} {n : Nat} (hz : n ≤ big) : IterRep K B H (Itr lo n) (rngL lo n 1) := by
  refine ⟨by rw [rngL_len]; exact hz, _, _, by rw [rngL_len]; exact walk_range, fun _ _ _ => trivial, fun i x B1 H1 H2 hi m f y => ?_⟩
  obtain ⟨rfl, rfl⟩ := y
  rw [rngL_len] at hi
  exact ⟨fun _ _ h => h, _, rngL_at hi, by rw [Int.mul_one]; exact .int _⟩
theorem iter_rngC {lo c : Int} {n : Nat} (hz : n ≤ big) : IterRep K B H (Itc lo c n) (rngL lo n c) := by
  refine ⟨by rw [rngL_len]; exact hz, _, _, by rw [rngL_len]; exact walk_rangeC, fun _ _ _ => trivial, fun i x B1 H1 H2 hi m f y => ?_⟩
  obtain ⟨rfl, rfl⟩ := y
  rw [rngL_len] at hi
  exact ⟨fun _ _ h => h, _, rngL_at hi, .int _⟩
theorem pair_rep {H1 H2 : Hp} {x1 x2 : V} {p1 p2 : P} {T : Addr} {B1 : Addr → Prop} (f : ∀ a, H1 a = none → ¬ B1 a) (nT : H1 T = none) (e : H2 = upd H1 T (.tup [x1, x2])) (r1 : Rep K (B1) H1 x1 p1) (r2 : Rep K (B1) H1 x2 p2) :
    Same H1 H2 ∧ Rep K (B1) H2 (.ref T) (.tup [p1, p2]) := by
  subst e
  exact ⟨same_upd nT, tupNew f nT (.cons r1 (.cons r2 .nil))⟩
theorem iter_zip {a b : Addr} {vs ws : List V} {ps qs : List P} (h1 : ¬ B a) (h2 : H a = some (.lst vs)) (r : Reps K B H vs ps) (h3 : ¬ B b) (h4 : H b = some (.lst ws)) (r' : Reps K B H ws qs) (hz : vs.length ≤ big) :
    IterRep K B H (Itz K a b) ((ps.zip qs).map fun p => .tup [p.1, p.2]) := by
  have hl : ((ps.zip qs).map fun p => P.tup [p.1, p.2]).length = min vs.length ws.length := by rw [List.length_map, List.length_zip, r.length, r'.length]
  refine ⟨by rw [hl]; omega, fun H => SqL K H a vs ∧ SqL K H b ws, YPair (fun i => vs[i]?) (fun i => ws[i]?), by rw [hl]; exact walk_zip rfl, fun B' H' m => ⟨.of (m.1 _ _ h1 h2), .of (m.1 _ _ h3 h4)⟩, fun i x B1 H1 H2 hi m f y => ?_⟩
  obtain ⟨T, x1, x2, rfl, nT, e, e1, e2⟩ := y
  obtain ⟨p1, g1, q1⟩ := r.get' e1
  obtain ⟨p2, g2, q2⟩ := r'.get' e2
  obtain ⟨s1, s2⟩ := pair_rep f nT e (m.rep q1) (m.rep q2)
  refine ⟨s1, _, ?_, s2⟩
  rw [List.getElem?_map, List.getElem?_zip_eq_some.mpr (show ps[i]? = some (p1, p2).1 ∧ qs[i]? = some (p1, p2).2 from ⟨g1, g2⟩)]
  rfl
theorem iter_zipT {a b : Addr} {vs ws : List V} {ps qs : List P} (h1 : ¬ B a) (h2 : H a = some (.tup vs)) (r : Reps K B H vs ps) (h3 : ¬ B b) (h4 : H b = some (.tup ws)) (r' : Reps K B H ws qs) (hz : vs.length ≤ big) :
    IterRep K B H (RZ.ItzT K a b) ((ps.zip qs).map fun p => .tup [p.1, p.2]) := by
  have hl : ((ps.zip qs).map fun p => P.tup [p.1, p.2]).length = min vs.length ws.length := by rw [List.length_map, List.length_zip, r.length, r'.length]
  have W : Walk (RZ.ItzT K a b) (min vs.length ws.length) (fun H => SqT K H a vs ∧ SqT K H b ws) (YPair (fun i => vs[i]?) (fun i => ws[i]?)) := by
    refine ⟨fun i H hi q => ?_, fun H q => ⟨vs, ws, q.1, q.2, by omega⟩, fun i H v H' _ q y => ?_⟩
    · have ha : i < vs.length := by omega
      have hb : i < ws.length := by omega
      exact ⟨vs, ws, vs[i], ws[i], q.1, q.2, by simp [ha], by simp [hb]⟩
    · obtain ⟨T, x, z, e1, e2, e3, e4, e5⟩ := y
      exact ⟨T, x, z, e1, e2, e3, e4 vs q.1, e5 ws q.2⟩
  refine ⟨by rw [hl]; omega, fun H => SqT K H a vs ∧ SqT K H b ws, YPair (fun i => vs[i]?) (fun i => ws[i]?), by rw [hl]; exact W, fun B' H' m => ⟨.of (m.1 _ _ h1 h2), .of (m.1 _ _ h3 h4)⟩, fun i x B1 H1 H2 hi m f y => ?_⟩
  obtain ⟨T, x1, x2, rfl, nT, e, e1, e2⟩ := y
  obtain ⟨p1, g1, q1⟩ := r.get' e1
  obtain ⟨p2, g2, q2⟩ := r'.get' e2
  obtain ⟨s1, s2⟩ := pair_rep f nT e (m.rep q1) (m.rep q2)
  refine ⟨s1, _, ?_, s2⟩
  rw [List.getElem?_map, List.getElem?_zip_eq_some.mpr (show ps[i]? = some (p1, p2).1 ∧ qs[i]? = some (p1, p2).2 from ⟨g1, g2⟩)]
  rfl
theorem iter_enum {a : Addr} {vs : List V} {ps : List P} (h1 : ¬ B a) (h2 : H a = some (.lst vs)) (r : Reps K B H vs ps) (hz : vs.length ≤ big) : IterRep K B H (Ite K a) ((ps.zipIdx).map fun p => .tup [.int p.2, p.1]) := by
  have hl : ((ps.zipIdx).map fun p => P.tup [.int p.2, p.1]).length = vs.length := by rw [List.length_map, List.length_zipIdx, r.length]
  refine ⟨by rw [hl]; exact hz, fun H => SqL K H a vs, YPair (fun i => some (.int (i : Nat))) (fun i => vs[i]?), by rw [hl]; exact walk_enum, fun B' H' m => .of (m.1 _ _ h1 h2), fun i x B1 H1 H2 hi m f y => ?_⟩
  obtain ⟨T, x1, x2, rfl, nT, e, e1, e2⟩ := y
  have e1 : V.int (i : Nat) = x1 := Option.some.inj e1
  subst e1
  obtain ⟨p2, g2, q2⟩ := r.get' e2
  obtain ⟨s1, s2⟩ := pair_rep f nT e (.int (i : Nat)) (m.rep q2)
  refine ⟨s1, _, ?_, s2⟩
  rw [List.getElem?_map, List.getElem?_zipIdx, g2]
  simp
end
def tI (C : Cls) (K : Frg) (Z : Addr → Prop) (W : WX) (r : Rs (List P)) (O : List Addr) (σ : L2.St) (H : Hp) (R : It → Hp → Prop) : Prop := match r with
  | .ok ps => ∀ J H', Same H H' → IterRep K (ZO Z O) H' J ps → R J H'
  | .exc x => tX C K Z W O σ H x
  | .bad => False
def tIv (C : Cls) (K : Frg) (W : WX) (F : Ev → Rs (List P)) : TI := fun σ H R => ∃ Z ρ O, EnvRep K Z O H σ ρ ∧ tI C K Z W (F ρ) O σ H R
section
variable {C : Cls} {K : Frg} {Z : Addr → Prop} {W : WX} {O : List Addr} {σ : L2.St} {H H1 : Hp}
theorem tI.same {r : Rs (List P)} {R : It → Hp → Prop} (s : Same H H1) (h : tI C K Z W r O σ H R) : tI C K Z W r O σ H1 R := by
  cases r with
  | ok p => exact fun J H' s' i => h J H' (same_tr s s') i
  | exc x => exact tX.same s h
  | bad => exact h
theorem tE_bindI {r : Rs P} {f : P → Rs (List P)} {Q : It → Hp → Prop} {R : VK} (h : tI C K Z W (r.bind f) O σ H Q) (k : ∀ x v H1, r = .ok x → Same H H1 → Rep K (ZO Z O) H1 v x → tI C K Z W (f x) O σ H1 Q → R v H1) : tE C K Z W r O σ H R := by
  cases r with
  | ok p => exact fun v H' s q => k p v H' rfl s q (tI.same s h)
  | exc x => exact h
  | bad => exact h
end
/-- a list or a tuple that an expression gives, walked -/
def iSeq (K : Frg) (tl : TE) : TI := fun σ H R => tl σ H fun x H1 => ∃ a, x = .ref a ∧ ((∃ xs, SqL K H1 a xs ∧ (xs.length ≤ big → R (Itl K a) H1)) ∨ (∃ xs, SqT K H1 a xs ∧ (xs.length ≤ big → R (Itt K a) H1)))
theorem pi_seq {X : Cx} {tg l : Expr} {tl : TE} (hl : PE X l tl) : PI X tg l (iSeq X.K tl) := by
  refine ⟨fun pins s σ H R I h => thn (hl.run pins s σ H _ I h) fun v t hv => ?_⟩
  obtain ⟨x, H1, I1, rx, a, rfl, q⟩ := hv
  cases rx
  have fp : ∀ b ∈ [t.heap.objs.size], FpOk X pins H1 b := fun b hb => by
    rw [show b = t.heap.objs.size by simpa using hb]
    exact I1.fpOk (Nat.le_refl _) (I1.hok.fresh (Nat.le_refl _))
  rcases q with ⟨xs, hq, q⟩ | ⟨xs, hq, q⟩
  · obtain ⟨its, r, p, hz⟩ := I1.list hq
    have hz : xs.length ≤ big := by rw [← big_eq]; have := r.length; omega
    exact wpAny_pyIter_list p.isList ⟨_, [_], _, _, H1, rfl, I1.kept (t' := t.toks) (fun b o e => Heap.get?_push_of_some _ e), turn_list a _, ⟨_, Heap.get?_push_size _ rfl, rfl, rfl⟩, fp, q hz⟩
  · obtain ⟨its, r, p, hz⟩ := I1.tuple hq
    have hz : xs.length ≤ big := by rw [← big_eq]; have := r.length; omega
    exact wpAny_pyIter_tuple (show t.heap.IsTuple a its.toArray from p) ⟨_, [_], _, _, H1, rfl, I1.kept (t' := t.toks) (fun b o e => Heap.get?_push_of_some _ e), turn_tuple a _, ⟨_, Heap.get?_push_size _ rfl, rfl, rfl⟩, fp, q hz⟩
theorem pi_imp {X : Cx} {tg e : Expr} {t t' : TI} (h : PI X tg e t) (f : ∀ σ H R, t' σ H R → t σ H R) : PI X tg e t' := ⟨fun pins s σ H R I q => h.run pins s σ H R I (f σ H R q)⟩
end PL
end

section
set_option Elab.async false
set_option linter.all false
set_option maxRecDepth 100000
set_option maxHeartbeats 4000000
/-! PLIx: indices and slices. -/
namespace PL
open PySem PySem.Spec
open PyProof.Rows
open L2 hiding start
section
variable {K : Frg} {Zo : Addr → Prop} {H : Hp}
theorem atL_of {vs : List V} {ps : List P} {i : Int} {p : P} (r : Reps K Zo H vs ps) (h : atL ps i = .ok p) : ∃ v, atI vs i = some v ∧ Rep K Zo H v p := by
  unfold atL at h
  cases e : (ixN ps.length i).bind fun j => ps[j]? with
  | none => rw [e] at h; cases h
  | some q =>
    rw [e] at h
    cases h
    obtain ⟨j, e1, e2⟩ := Option.bind_eq_some_iff.mp e
    obtain ⟨v, h1, h2⟩ := r.get e2
    refine ⟨v, ?_, h2⟩
    unfold atI
    rw [r.length]
    exact Option.bind_eq_some_iff.mpr ⟨j, e1, h1⟩
theorem dget_of {k : List Int} {p : P} : ∀ {ds : List (List Key × V)} {kvs : List (List Int × P)}, RepD K Zo H ds kvs → dget kvs k = .ok p → ∃ v, valV ds (k.map Sum.inl) = some v ∧ Rep K Zo H v p
  | _, _, .nil, h => by cases h
  | _, _, .cons (k := k0) (v := v0) r t, h => by
    have inj : (k0.map (Sum.inl : Int → Key) = k.map Sum.inl) ↔ k0 = k := by
      constructor
      · intro e
        exact List.map_inj_right (fun a b h => by injection h) |>.mp e
      · intro e; rw [e]
    by_cases hk : k0 = k
    · subst hk
      unfold dget at h
      rw [List.find?_cons_of_pos (by simp)] at h
      cases h
      refine ⟨v0, ?_, r⟩
      unfold valV
      rw [List.find?_cons_of_pos (by simp)]
      rfl
    · unfold dget at h
      rw [List.find?_cons_of_neg (by simpa using hk)] at h
      obtain ⟨v, h1, h2⟩ := dget_of t h
      refine ⟨v, ?_, h2⟩
      unfold valV at h1 ⊢
      rw [List.find?_cons_of_neg (by simpa using fun z => hk (inj.mp z))]
      exact h1
theorem keys_of {ns : List Int} : ns.map V.int = (ns.map (Sum.inl : Int → Key)).map kV := by
  rw [List.map_map]
  rfl
end
section
variable {X : Cx}
def rIxDP (K : Frg) : R2 := fun v u H Q => ∃ (Zo : Addr → Prop) (kvs : List (List Int × P)) (ks : List P) (k : List Int) (p : P), Rep K Zo H v (.dic kvs) ∧ Rep K Zo H u (.tup ks) ∧ intsL ks = some k ∧ dget kvs k = .ok p ∧ ∀ w H', Same H H' → Rep K Zo H' w p → Q w H'
theorem ix_dP (hu : X.A.units + 65 < cLine) : IxR X (rIxDP X.K) := by
  intro value slice pins s σ H x y v u Q I rx ry h hs
  obtain ⟨Zo, kvs, ks, k, p, r, t, e, g, q⟩ := h
  cases r with
  | dic n1 n2 n3 =>
    cases t with
    | tup m1 m2 m3 =>
      have ei := m3.ints e
      subst ei
      obtain ⟨w, e1, e2⟩ := dget_of n3 g
      have G : DGet H _ _ (some w) := e1 ▸ DGet.t (k := k.map Sum.inl) n2 (by rw [m2, keys_of])
      obtain rfl : v = Value.ref _ := rx
      exact tail_any (dict_typeIs I G) slot_dict_getitem.lookup (d_getItem (by omega) I G ry fun w' s' I' rw' => ⟨w, H, I', rw', q _ _ (fun _ _ h => h) e2⟩) hs
theorem ix_P (hu : X.A.units + 65 < cLine) : IxR X (rP X.K subP) := by
  intro value slice pins s σ H x y v u Q I rx ry h hs
  obtain ⟨Zo, a, b, p, f, ra, rb, e, q⟩ := h
  have key : (rIx X.K x y H Q) ∨ rIxDP X.K x y H Q := by
    cases a with
    | tup xs =>
      cases b with
      | int i =>
        obtain ⟨l, vs, rfl, hT, r⟩ := ra.seqT
        obtain ⟨w, e1, e2⟩ := atL_of r e
        cases rb
        exact .inl (.inr (.inl ⟨l, vs, i, w, rfl, rfl, hT, e1, q _ _ (fun _ _ h => h) e2⟩))
      | _ => cases e
    | lst xs =>
      cases b with
      | int i =>
        obtain ⟨l, vs, rfl, hT, r⟩ := ra.seqL
        obtain ⟨w, e1, e2⟩ := atL_of r e
        cases rb
        exact .inl (.inl ⟨l, vs, i, w, rfl, rfl, hT, e1, q _ _ (fun _ _ h => h) e2⟩)
      | _ => cases e
    | scr xs =>
      cases b with
      | int i =>
        obtain ⟨l, vs, rfl, hT, r⟩ := ra.seqS
        obtain ⟨w, e1, e2⟩ := atL_of r e
        cases rb
        exact .inl (.inl ⟨l, vs, i, w, rfl, rfl, hT, e1, q _ _ (fun _ _ h => h) e2⟩)
      | _ => cases e
    | str z =>
      cases b with
      | int i =>
        obtain ⟨c, e⟩ := Rs.when_ok e
        cases ra
        cases rb
        cases g : (ixN z.cps.toList.length i).bind fun j => z.cps.toList[j]? with
        | none => rw [g] at e; cases e
        | some d =>
          rw [g] at e
          cases e
          exact .inl (.inr (.inr ⟨z, i, d, rfl, rfl, by rw [big_eq]; exact of_decide_eq_true c, g, q _ _ (fun _ _ h => h) (.str _)⟩))
      | _ => cases e
    | dic kvs =>
      cases b with
      | tup ks =>
        have e : (match intsL ks with | some k => dget kvs k | none => Rs.bad) = .ok p := e
        cases g : intsL ks with
        | none => rw [g] at e; cases e
        | some k =>
          rw [g] at e
          exact .inr ⟨Zo, kvs, ks, k, p, ra, rb, g, e, q⟩
      | _ => cases e
    | _ => cases e
  rcases key with h | h
  · exact ix_seq value slice pins s σ H x y v u Q I rx ry h hs
  · exact ix_dP hu value slice pins s σ H x y v u Q I rx ry h hs
theorem sIx_eq (n d : Nat) (o : Option Int) : HT.sIx n d o = sIx n d o := by
  cases o with
  | none => rfl
  | some v =>
    unfold HT.sIx sIx
    by_cases h : v < 0
    · simp only [if_pos h]
      by_cases h2 : v + n < 0
      · rw [if_pos h2]; omega
      · rw [if_neg h2]
    · simp only [if_neg h]
theorem Reps.cut {K : Frg} {Zo : Addr → Prop} {H : Hp} {vs : List V} {ps : List P} (r : Reps K Zo H vs ps) (lo hi : Option Int) : Reps K Zo H (cutV vs lo hi) (PL.cut ps lo hi) := by
  unfold cutV PL.cut
  rw [sIx_eq, sIx_eq, r.length]
  exact (r.drop _).take _
def rSlP (K : Frg) : V → Option Int → Option Int → Hp → VK → Prop := fun v lo hi H Q => ∃ (Zo : Addr → Prop) (x p : P), (∀ a, H a = none → ¬ Zo a) ∧ Rep K Zo H v x ∧ slcP lo hi x = .ok p ∧ ∀ w H', Same H H' → Rep K Zo H' w p → Q w H'
theorem sl_P : SlR X (rSlP X.K) := by
  intro pins s σ H x v vl vu lo hi sl Q I rx hs pl pu h
  obtain ⟨Zo, a, p, f, ra, e, q⟩ := h
  cases a with
  | tup xs =>
    cases e
    have ra' := ra
    obtain ⟨l, vs, rfl, hT, r⟩ := ra.seqT
    refine sl_tupA pins s σ H _ v vl vu lo hi sl Q I rx hs pl pu ⟨l, vs, rfl, hT, fun hw => ?_, fun hw p' hp => q _ _ (same_upd hp) (tupNew f hp (r.cut lo hi))⟩
    refine q _ _ (fun _ _ h => h) ?_
    have hc : PL.cut xs lo hi = xs := by
      unfold PL.cut
      rw [← sIx_eq, ← sIx_eq, ← r.length, hw.1, hw.2, List.drop_zero, r.length, Nat.sub_zero, List.take_length]
    rw [hc]
    exact ra'
  | lst xs =>
    cases e
    obtain ⟨l, vs, rfl, hT, r⟩ := ra.seqL
    exact sl_list pins s σ H _ v vl vu lo hi sl Q I rx hs pl pu ⟨l, vs, rfl, hT, fun p' hp => q _ _ (same_upd hp) (lstNew f hp (r.cut lo hi))⟩
  | _ => cases e
end

/-! ### isinstance -/
def pyT : P → String
  | .non => "NoneType" | .bl _ => "bool" | .int _ => "int" | .str _ => "str" | .tup _ => "tuple" | .lst _ => "list" | .scr _ => "list" | .dic _ => "dict"
theorem ty_of {K : Frg} {Zo : Addr → Prop} {H : Hp} {v : V} {p : P} (r : Rep K Zo H v p) : TyX K H v (.type (pyT p)) := by
  cases r with
  | non => exact .base .non
  | bl b => exact .base (.bl b)
  | int i => exact .base (.int i)
  | str x => exact .base (.str x)
  | tup n1 n2 n3 => exact .base (.tup n2)
  | lst n1 n2 n3 => exact .base (.lst n2)
  | scr n1 n2 n3 =>
    rcases n2 with e | ⟨o, e⟩
    · exact .base (.lst e)
    · exact .base (.frz e)
  | kls n2 n3 =>
    obtain ⟨o, its, n, e, c, _⟩ := n2
    exact .kList e c
  | dic n1 n2 n3 => exact .base (.dT n2)
def rIsP (K : Frg) (ty : String) (g : List P → Rs P) : List V → Hp → VK → Prop := fun vs H Q => ∃ v, vs = [v, .ty ty] ∧ rC K g [v] H Q
theorem isP_of {b : Blt} {ty : String} {p q : P} (hb : bltIs b = some ty) (e : bltP b [p] = .ok q) : ∃ r, kitB (pyT p) ty = some r ∧ q = .bl r := by
  cases b <;> cases hb <;> cases p <;> cases e <;> first | (refine ⟨true, ?_, rfl⟩; dsimp only [pyT]; decide +kernel) | (refine ⟨false, ?_, rfl⟩; dsimp only [pyT]; decide +kernel)
theorem call_isP {X : Cx} {b : Blt} {ty : String} (hb : bltIs b = some ty) : CallR X (.builtin "isinstance") (rIsP X.K ty (bltP b)) := by
  intro pins s σ H vs us Q I r1 h
  obtain ⟨v, rfl, Zo, ps, p, fr, rx, e, q⟩ := h
  cases rx with
  | cons r rr =>
    cases rr
    obtain ⟨b, e1, rfl⟩ := isP_of hb e
    exact call_isi pins s σ H _ us Q I r1 ⟨v, .ty ty, _, _, b, rfl, .ty ty, ty_of r, kit_ty e1, q _ _ (fun _ _ h => h) (.bl b)⟩
end PL
end

section
set_option Elab.async false
set_option linter.all false
set_option maxRecDepth 100000
set_option maxHeartbeats 4000000
/-! PLSnd: what an expression of the language gives is what the program's text gives. -/
namespace PL
open PySem PySem.Spec
open PyProof.Rows
open L2 hiding start

/-! ### results without an exception -/
def NX {α : Type} (r : Rs α) : Prop := ∀ x, r ≠ .exc x
theorem nx_ok {α : Type} {a : α} : NX (.ok a : Rs α) := fun _ h => by cases h
theorem nx_bad {α : Type} : NX (.bad : Rs α) := fun _ h => by cases h
theorem nx_when {α : Type} {c : Bool} {r : Rs α} (h : NX r) : NX (Rs.when c r) := by
  cases c with
  | true => exact h
  | false => exact nx_bad
theorem nx_bind {α β : Type} {r : Rs α} {f : α → Rs β} (h : NX r) (g : ∀ a, NX (f a)) : NX (r.bind f) := by
  cases r with
  | ok a => exact g a
  | exc x => exact absurd rfl (h x)
  | bad => exact nx_bad
theorem nx_calm {α : Type} {r : Rs α} : NX r.calm := by
  cases r with
  | ok a => exact nx_ok
  | _ => exact nx_bad
theorem binP_nx (o : BOp) (a b : P) : NX (binP o a b) := by
  unfold binP
  split <;> first | exact nx_ok | exact nx_bad | exact nx_when nx_ok
theorem inP_nx (a b : P) : NX (inP a b) := by
  unfold inP
  split
  · exact nx_when nx_ok
  · exact nx_when nx_ok
  · split
    · split <;> first | exact nx_ok | exact nx_bad
    · exact nx_bad
  · exact nx_bad
theorem cmpP_nx (o : COp) (a b : P) : NX (cmpP o a b) := by
  unfold cmpP
  split <;> first | exact nx_ok | exact nx_bad | exact nx_when nx_ok | exact inP_nx _ _ | exact nx_bind (inP_nx _ _) fun _ => nx_ok
theorem atL_nx (a : List P) (i : Int) : NX (atL a i) := by
  unfold atL
  split <;> first | exact nx_ok | exact nx_bad
theorem dget_nx (a : List (List Int × P)) (i : List Int) : NX (dget a i) := by
  unfold dget
  split <;> first | exact nx_ok | exact nx_bad
theorem subP_nx (a b : P) : NX (subP a b) := by
  unfold subP
  split
  · exact atL_nx _ _
  · exact atL_nx _ _
  · exact atL_nx _ _
  · split <;> first | exact dget_nx _ _ | exact nx_bad
  · refine nx_when ?_
    split <;> first | exact nx_ok | exact nx_bad
  · exact nx_bad
theorem slcP_nx (l h : Option Int) (a : P) : NX (slcP l h a) := by
  unfold slcP
  split <;> first | exact nx_ok | exact nx_bad
theorem asB_nx (a : P) : NX (asB a) := by
  unfold asB
  split <;> first | exact nx_ok | exact nx_bad
theorem asI_nx (a : P) : NX (asI a) := by
  unfold asI
  split <;> first | exact nx_ok | exact nx_bad
theorem asS_nx (a : P) : NX (asS a) := by
  unfold asS
  split <;> first | exact nx_ok | exact nx_bad
theorem bltP_nx (f : Blt) (xs : List P) : NX (bltP f xs) := by
  unfold bltP
  split <;> first | exact nx_ok | exact nx_bad | exact nx_when nx_ok | (refine nx_bind (asS_nx _) fun _ => ?_; split <;> first | exact nx_ok | exact nx_bad) | (split <;> first | exact nx_ok | exact nx_bad)
theorem getS_nx (ρ : Ev) (i : Nat) : NX (getS ρ i) := by
  unfold getS
  split <;> first | exact nx_ok | exact nx_bad
theorem compP_nx (f : P → Rs (Option P)) : ∀ xs, NX (compP f xs)
  | [] => nx_ok
  | x :: r => nx_bind nx_calm fun _ => nx_bind (compP_nx f r) fun _ => nx_ok
theorem compP2_nx (f : P → Rs (List P)) : ∀ xs, NX (compP2 f xs)
  | [] => nx_ok
  | x :: r => nx_bind nx_calm fun _ => nx_bind (compP2_nx f r) fun _ => nx_ok

/-! ### readings -/
section
variable {C : Cls} {K : Frg} {Z : Addr → Prop} {W : WX} {O : List Addr} {σ : L2.St} {H H1 : Hp}
theorem tE_ok {r : Rs P} (nx : NX r) {Q : VK} (h : tE C K Z W r O σ H Q) : ∃ p, r = .ok p ∧ ∀ v H', Same H H' → Rep K (ZO Z O) H' v p → Q v H' := by
  cases r with
  | ok p => exact ⟨p, rfl, h⟩
  | exc x => exact absurd rfl (nx x)
  | bad => exact h.elim
theorem tG_ok {α : Type} {r : Rs α} (nx : NX r) {Q : α → Hp → Prop} (h : tG C K Z W r O σ H Q) : ∃ p, r = .ok p ∧ ∀ H', Same H H' → Q p H' := by
  cases r with
  | ok p => exact ⟨p, rfl, h⟩
  | exc x => exact absurd rfl (nx x)
  | bad => exact h.elim
theorem sameR (H : Hp) : Same H H := fun _ _ h => h
/-- with no other block than none -/
theorem Rep.free {K : Frg} {B : Addr → Prop} {H : Hp} {v : V} {p : P} (r : Rep K B H v p) : Rep K (fun _ => False) H v p := r.keep (fun _ _ _ h => h) fun _ h => h.elim
theorem Reps.free {K : Frg} {B : Addr → Prop} {H : Hp} {v : List V} {p : List P} (r : Reps K B H v p) : Reps K (fun _ => False) H v p := r.keep (fun _ _ _ h => h) fun _ h => h.elim
def tCv (C : Cls) (K : Frg) (W : WX) (F : Ev → Rs Bool) : TT := fun σ H Q => ∃ Z ρ O, EnvRep K Z O H σ ρ ∧ tG C K Z W (F ρ) O σ H Q
end
/-- e as a value and as a test -/
def Bo (C : Cls) (X : Cx) (W : WX) (ee : Expr) (F : Ev → Rs P) : Prop := PE X ee (tEv C X.K W F) ∧ PT X ee (tTv C X.K W F)
section
variable {C : Cls} {X : Cx} {W : WX} {ee : Expr} {F : Ev → Rs P}
theorem Bo.val {t : TE} (R : PE X ee t) (f : ∀ σ H Q, tEv C X.K W F σ H Q → t σ H Q) (he : ∀ whole, isTrue ee X.env whole = (do let v ← whole; standAt ee.pos; holding [v] (truthy v)) := by intro _; rfl) : Bo C X W ee F :=
  ⟨pe_imp R f, pt_imp (pt_val R he) fun σ H Q h => f σ H _ (tT_of h)⟩
theorem Bo.of {t : TE} (R : PE X ee t) (T : PT X ee (tB t)) (f : ∀ σ H Q, tEv C X.K W F σ H Q → t σ H Q) : Bo C X W ee F :=
  ⟨pe_imp R f, pt_imp T fun σ H Q h => f σ H _ (tT_of h)⟩

theorem snd_v {i : Nat} {x : Str} {pos : Pos} (h1 : X.N[i]? = some x) (h2 : Vis X.env.scope x) (h3 : nmOk x = true) : Bo C X W (.Name x pos) fun ρ => getS ρ i :=
  .val (pe_var h1 h2 (nm1 h3) (nm2 h3)) fun σ H Q ⟨Z, ρ, O, er, h⟩ => by
    obtain ⟨p, e, q⟩ := tE_ok (getS_nx _ _) h
    obtain ⟨v, e1, r⟩ := er.get e
    exact ⟨v, e1, q v H (sameR H) r⟩
theorem snd_c {p : P} {k : Const} {j pos} (h : constB p k = true) : Bo C X W (.Constant k j pos) fun _ => .ok p := by
  cases p <;> cases k <;> first | (cases h; done) | skip
  · exact .val pe_non fun σ H Q ⟨Z, ρ, O, er, h⟩ => h _ H (sameR H) .non
  · have e := eq_of_beq (show (_ == _) = true from h)
    subst e
    exact .val pe_bl fun σ H Q ⟨Z, ρ, O, er, h⟩ => h _ H (sameR H) (.bl _)
  · have e := of_decide_eq_true (show decide (_ = _) = true from h)
    subst e
    exact .val pe_int fun σ H Q ⟨Z, ρ, O, er, h⟩ => h _ H (sameR H) (.int _)
  · have e := of_decide_eq_true (show decide (_ = _) = true from h)
    subst e
    exact .val pe_str fun σ H Q ⟨Z, ρ, O, er, h⟩ => h _ H (sameR H) (.str _)
theorem snd_d {pos} : Bo C X W (.Dict [] [] pos) fun _ => .ok (.dic []) :=
  .val pe_dnewT fun σ H Q ⟨Z, ρ, O, er, h⟩ => fun p hp => h _ _ (same_upd hp) (.dic (er.fresh hp) upd_same .nil)
theorem scl_rep {p : P} {v : V} (h : sclV p = some v) (K : Frg) (B : Addr → Prop) (H : Hp) : Rep K B H v p := by
  cases p <;> cases h <;> constructor
theorem snd_g {x : Str} {p : P} {pos} (hg : Gl X x) (h : nmOk x = true) (e : ∃ v u, sclV p = some v ∧ X.mg x = some u ∧ RelV v u) : Bo C X W (.Name x pos) fun _ => .ok p := by
  obtain ⟨v, u, e1, e2, e3⟩ := e
  exact .val (pe_glob hg e2 e3 (nm1 h)) fun σ H Q ⟨Z, ρ, O, er, h⟩ => h _ H (sameR H) (scl_rep e1 _ _ _)

variable {a b c : Expr} {Fa Fb Fc : Ev → Rs P} {pos : Pos}
theorem tEv_op {g : P → P → Rs P} (nx : ∀ x y, NX (g x y)) (σ : L2.St) (H : Hp) (Q : VK) (h : tEv C X.K W (fun ρ => (Fa ρ).bind fun x => (Fb ρ).bind fun y => g x y) σ H Q) : tOp (rP X.K g) (tEv C X.K W Fa) (tEv C X.K W Fb) σ H Q := by
  obtain ⟨Z, ρ, O, er, h⟩ := h
  refine ⟨Z, ρ, O, er, tE_bind h fun x v H1 e s r h1 => ⟨Z, ρ, O, er.same s, tE_bind h1 fun y u H2 e2 s2 r2 h2 => ?_⟩⟩
  obtain ⟨p, e3, q⟩ := tE_ok (nx x y) h2
  exact ⟨ZO Z O, x, y, p, fun a ha => ((er.same s).same s2).fresh ha, r.same s2, r2, e3, q⟩
theorem tEv_cmp {g : P → P → Rs Bool} (nx : ∀ x y, NX (g x y)) (σ : L2.St) (H : Hp) (Q : VK) (h : tEv C X.K W (fun ρ => (Fa ρ).bind fun x => (Fb ρ).bind fun y => (g x y).bind fun b => .ok (.bl b)) σ H Q) : tOp (rB X.K g) (tEv C X.K W Fa) (tEv C X.K W Fb) σ H Q := by
  obtain ⟨Z, ρ, O, er, h⟩ := h
  refine ⟨Z, ρ, O, er, tE_bind h fun x v H1 e s r h1 => ⟨Z, ρ, O, er.same s, tE_bind h1 fun y u H2 e2 s2 r2 h2 => ?_⟩⟩
  obtain ⟨p, e3, q⟩ := tE_ok (nx_bind (nx x y) fun _ => nx_ok) h2
  obtain ⟨b, e4, e5⟩ := Rs.bind_ok_inv e3
  cases e5
  exact ⟨ZO Z O, x, y, b, r.same s2, r2, e4, q _ _ (sameR H2) (.bl b)⟩
theorem snd_bin (o : BOp) (ha : Bo C X W a Fa) (hb : Bo C X W b Fb) : Bo C X W (.BinOp a (bopE o) b pos) fun ρ => (Fa ρ).bind fun x => (Fb ρ).bind fun y => binP o x y :=
  .val (pe_op (op_bin o) ha.1 hb.1) (tEv_op (binP_nx o))
theorem snd_neg (ha : Bo C X W a Fa) : Bo C X W (.UnaryOp .USub a pos) fun ρ => (Fa ρ).bind fun x => (asI x).bind fun i => .ok (.int (-i)) :=
  .val (pe_un un_neg ha.1) fun σ H Q ⟨Z, ρ, O, er, h⟩ => ⟨Z, ρ, O, er, tE_bind h fun x v H1 e s r h1 => by
    cases x with
    | int i => cases r; exact ⟨i, rfl, h1 _ _ (sameR H1) (.int _)⟩
    | _ => exact h1.elim⟩
theorem tG_not {Z : Addr → Prop} {O : List Addr} {σ : L2.St} {H : Hp} {r : Rs P} {Q : Bool → Hp → Prop} (h : tG C X.K Z W ((r.bind fun x => (asB x).bind fun b => .ok (P.bl (!b))).bind asB) O σ H Q) :
    tG C X.K Z W (r.bind asB) O σ H (fun c H1 => Q (!c) H1) := by
  cases r with
  | ok x =>
    cases x with
    | bl b => exact h
    | _ => exact h.elim
  | exc x => exact h
  | bad => exact h.elim
theorem snd_not (ha : Bo C X W a Fa) : Bo C X W (.UnaryOp .Not a pos) fun ρ => (Fa ρ).bind fun x => (asB x).bind fun b => .ok (.bl (!b)) :=
  ⟨pe_imp (pe_not ha.1) fun σ H Q ⟨Z, ρ, O, er, h⟩ => ⟨Z, ρ, O, er, tE_bind h fun x v H1 e s r h1 => by
    cases x with
    | bl b => cases r; exact ⟨b, rfl, h1 _ _ (sameR H1) (.bl _)⟩
    | _ => exact h1.elim⟩,
   pt_imp (pt_not ha.2) fun σ H Q ⟨Z, ρ, O, er, h⟩ => ⟨Z, ρ, O, er, tG_not h⟩⟩
theorem snd_cmp (hu : X.A.units + 65 < cLine) (o : COp) (ha : Bo C X W a Fa) (hb : Bo C X W b Fb) (hp : plainB b = true) : Bo C X W (.Compare a [copE o] [b] pos) fun ρ => (Fa ρ).bind fun x => (Fb ρ).bind fun y => (cmpP o x y).bind fun b => .ok (.bl b) :=
  .of (pe_cmpR (op_cmp hu o) ha.1 hb.1 (behind_of hp)) (pt_cmpR (op_cmp hu o) ha.1 hb.1 (behind_of hp)) (tEv_cmp (cmpP_nx o))
theorem last_of {o o' : CmpOp} (hp : plainB c = true) : lastMarks [o, o'] [b, c] = false := by
  show behindInMarks o' c = false
  exact behind_of hp
theorem tEv_chain (o o' : COp) (σ : L2.St) (H : Hp) (Q : VK) (h : tEv C X.K W (fun ρ => (Fa ρ).bind fun x => (Fb ρ).bind fun y => (cmpP o x y).bind fun k => if k then (Fc ρ).bind fun z => (cmpP o' y z).bind fun b => .ok (.bl b) else .ok (.bl false)) σ H Q) :
    tChain (rB X.K (cmpP o)) (rB X.K (cmpP o')) (tEv C X.K W Fa) (tEv C X.K W Fb) (tEv C X.K W Fc) σ H Q := by
  obtain ⟨Z, ρ, O, er, h⟩ := h
  refine ⟨Z, ρ, O, er, tE_bind h fun x v H1 e s r h1 => ⟨Z, ρ, O, er.same s, tE_bind h1 fun y u H2 e2 s2 r2 h2 => ?_⟩⟩
  have er2 := (er.same s).same s2
  cases g : cmpP o x y with
  | ok k =>
    refine ⟨ZO Z O, x, y, k, r.same s2, r2, g, k, rfl, ?_⟩
    rw [g] at h2
    cases k with
    | true =>
      refine ⟨Z, ρ, O, er2, tE_bind h2 fun z w H3 e3 s3 r3 h3 => ?_⟩
      obtain ⟨p, e3, q⟩ := tE_ok (nx_bind (cmpP_nx o' y z) fun _ => nx_ok) h3
      obtain ⟨b, e4, e5⟩ := Rs.bind_ok_inv e3
      cases e5
      exact ⟨ZO Z O, y, z, b, r2.same s3, r3, e4, q _ _ (sameR H3) (.bl b)⟩
    | false => exact h2 _ _ (sameR H2) (.bl false)
  | exc x => exact absurd g (cmpP_nx _ _ _ x)
  | bad => rw [g] at h2; exact h2.elim
theorem snd_chain (hu : X.A.units + 65 < cLine) (o o' : COp) (ha : Bo C X W a Fa) (hb : Bo C X W b Fb) (hc : Bo C X W c Fc) (hp : plainB c = true) : Bo C X W (.Compare a [copE o, copE o'] [b, c] pos)
    fun ρ => (Fa ρ).bind fun x => (Fb ρ).bind fun y => (cmpP o x y).bind fun k => if k then (Fc ρ).bind fun z => (cmpP o' y z).bind fun b => .ok (.bl b) else .ok (.bl false) :=
  .of (pe_chain (op_cmp hu o) (op_cmp hu o') ha.1 hb.1 hc.1 (last_of hp)) (pt_chain (op_cmp hu o) (op_cmp hu o') ha.1 hb.1 hc.1 (last_of hp)) (tEv_chain o o')
theorem slot_seq {Z : Addr → Prop} {O : List Addr} {σ : L2.St} {H : Hp} {ρ : Ev} {i : Nat} {xs : List P} (er : EnvRep X.K Z O H σ ρ) (h : ρ[i]? = some (.ow xs)) : ∃ a vs, σ[i]? = some (some (.ref a)) ∧ H a = some (.lst vs) ∧ Reps X.K (ZO Z O) H vs xs := by
  obtain ⟨o, h1, h2⟩ := er.sl i _ h
  cases h2 with
  | ow n1 n2 n3 => exact ⟨_, _, h1, n2, n3⟩
theorem tEv_inv {neg : Bool} {i : Nat} (σ : L2.St) (H : Hp) (Q : VK) (h : tEv C X.K W (fun ρ => (Fa ρ).bind fun x => match ρ[i]? with
    | some (.fz p) => (inP x p).bind fun b => .ok (.bl (if neg then !b else b))
    | some (.ow xs) => (inP x (.lst xs)).bind fun b => .ok (.bl (if neg then !b else b))
    | _ => .bad) σ H Q) : tOp (rB X.K fun x y => (inP x y).bind fun b => .ok (if neg then !b else b)) (tEv C X.K W Fa) (tVar i) σ H Q := by
  obtain ⟨Z, ρ, O, er, h⟩ := h
  refine ⟨Z, ρ, O, er, tE_bind h fun x v H1 e s r h1 => ?_⟩
  have er1 := er.same s
  have fin : ∀ (y : P) (u : V), Rep X.K (fun _ => False) H1 u y → tE C X.K Z W ((inP x y).bind fun b => .ok (.bl (if neg then !b else b))) O σ H1 Q → rB X.K (fun x y => (inP x y).bind fun b => .ok (if neg then !b else b)) v u H1 Q := fun y u ry h1 => by
    obtain ⟨p, e3, q⟩ := tE_ok (nx_bind (inP_nx x y) fun _ => nx_ok) h1
    obtain ⟨b, e4, e5⟩ := Rs.bind_ok_inv e3
    cases e5
    exact ⟨_, x, y, _, r.free, ry, by show (inP x y).bind _ = _; rw [e4]; rfl, q _ _ (sameR H1) (.bl _)⟩
  cases g : ρ[i]? with
  | none => rw [g] at h1; exact h1.elim
  | some sl =>
    rw [g] at h1
    cases sl with
    | fz p =>
      obtain ⟨u, e1, ru⟩ := er1.get (show getS ρ i = .ok p by unfold getS; rw [g])
      exact ⟨u, e1, fin p u ru.free h1⟩
    | ow xs =>
      obtain ⟨l, vs, e1, e2, ru⟩ := slot_seq er1 g
      exact ⟨_, e1, fin (.lst xs) _ (.lst (fun z => z) e2 ru.free) h1⟩
    | _ => exact h1.elim
theorem snd_inv (hu : X.A.units + 65 < cLine) (neg : Bool) {i : Nat} {x : Str} {p : Pos} (ha : Bo C X W a Fa) (h1 : X.N[i]? = some x) (h2 : Vis X.env.scope x) (h3 : nmOk x = true) : Bo C X W (.Compare a [if neg then .NotIn else .In] [.Name x p] pos) (fun ρ => (Fa ρ).bind fun x => match ρ[i]? with
    | some (.fz p) => (inP x p).bind fun b => .ok (.bl (if neg then !b else b))
    | some (.ow xs) => (inP x (.lst xs)).bind fun b => .ok (.bl (if neg then !b else b))
    | _ => .bad) :=
  .of (pe_cmpR (op_in_P hu neg) ha.1 (pe_var h1 h2 (nm1 h3) (nm2 h3)) rfl) (pt_cmpR (op_in_P hu neg) ha.1 (pe_var h1 h2 (nm1 h3) (nm2 h3)) rfl) tEv_inv
theorem pt_if {X : Cx} {c a b : Expr} {tc ta tb : TT} {pos : Pos} (hc : PT X c tc) (ha : PT X a ta) (hb : PT X b tb) : PT X (.IfExp c a b pos) (fun σ H Q => tc σ H fun k H1 => if k = true then ta σ H1 Q else tb σ H1 Q) := by
  refine ⟨fun pins s σ H Q I h => isTrue_IfExp (thn (hc.run pins s σ H _ I h) fun k s1 ⟨H1, I1, q⟩ => ?_)⟩
  cases k with
  | true => exact ha.run pins s1 σ H1 Q I1 q
  | false => exact hb.run pins s1 σ H1 Q I1 q
theorem snd_ite (hc : Bo C X W c Fc) (ha : Bo C X W a Fa) (hb : Bo C X W b Fb) : Bo C X W (.IfExp c a b pos) fun ρ => (Fc ρ).bind fun x => (asB x).bind fun k => if k then Fa ρ else Fb ρ := by
  have key : ∀ {Z : Addr → Prop} {O : List Addr} {σ : L2.St} {H : Hp} {α : Type} {r : Rs P} {f : Bool → Rs α} {Q : α → Hp → Prop} {R : Bool → Hp → Prop}, tG C X.K Z W (r.bind fun x => (asB x).bind f) O σ H Q → (∀ k H1, Same H H1 → tG C X.K Z W (f k) O σ H1 Q → R k H1) → tG C X.K Z W (r.bind asB) O σ H R := by
    intro Z O σ H α r f Q R h k
    cases r with
    | ok x =>
      cases x with
      | bl b => exact fun H1 s => k b H1 s (tG.same s h)
      | _ => exact h.elim
    | exc x => exact h
    | bad => exact h.elim
  refine ⟨pe_imp (pe_ifExp hc.2 ha.1 hb.1) fun σ H Q ⟨Z, ρ, O, er, h⟩ => ⟨Z, ρ, O, er, ?_⟩, pt_imp (pt_if hc.2 ha.2 hb.2) fun σ H Q ⟨Z, ρ, O, er, h⟩ => ⟨Z, ρ, O, er, ?_⟩⟩
  · have h : tE C X.K Z W ((Fc ρ).bind fun x => (asB x).bind fun k => if k then Fa ρ else Fb ρ) O σ H Q := h
    cases g : Fc ρ with
    | ok x =>
      rw [g] at h
      cases x with
      | bl k =>
        intro H1 s
        have h := tE.same s h
        cases k with
        | true => exact ⟨Z, ρ, O, er.same s, h⟩
        | false => exact ⟨Z, ρ, O, er.same s, h⟩
      | _ => exact h.elim
    | exc x => rw [g] at h; exact h
    | bad => rw [g] at h; exact h.elim
  · have e : (((Fc ρ).bind fun x => (asB x).bind fun k => if k then Fa ρ else Fb ρ).bind asB) = (Fc ρ).bind fun x => (asB x).bind fun k => if k then (Fa ρ).bind asB else (Fb ρ).bind asB := by
      cases Fc ρ with
      | ok x => cases x with
        | bl k => cases k <;> rfl
        | _ => rfl
      | _ => rfl
    have h : tG C X.K Z W (((Fc ρ).bind fun x => (asB x).bind fun k => if k then Fa ρ else Fb ρ).bind asB) O σ H Q := h
    rw [e] at h
    refine key h fun k H1 s h1 => ?_
    cases k with
    | true => exact ⟨Z, ρ, O, er.same s, h1⟩
    | false => exact ⟨Z, ρ, O, er.same s, h1⟩
end
end PL
end

section
set_option Elab.async false
set_option linter.all false
set_option maxRecDepth 100000
set_option maxHeartbeats 4000000
/-! PLSnd2: .. argument lists, and/or, displays, subscripts, calls, ranges. -/
namespace PL
open PySem PySem.Spec
open PyProof.Rows
open L2 hiding start
section
variable {C : Cls} {X : Cx} {W : WX} {a b c : Expr} {es : List Expr} {Fa Fb Fc : Ev → Rs P} {Fs : Ev → Rs (List P)} {pos : Pos}
theorem snd_nil : PA X [] (tLv C X.K W fun _ => .ok []) := pa_imp pa_nil fun σ H Q ⟨Z, ρ, O, er, h⟩ => h _ _ (sameR H) .nil
theorem snd_cons (hp : plainB a = true) (ha : PE X a (tEv C X.K W Fa)) (hs : PA X es (tLv C X.K W Fs)) : PA X (a :: es) (tLv C X.K W fun ρ => (Fa ρ).bind fun x => (Fs ρ).bind fun xs => .ok (x :: xs)) :=
  pa_imp (pa_cons ha hs (star_of hp)) fun σ H Q ⟨Z, ρ, O, er, h⟩ => ⟨Z, ρ, O, er, tE_bindL h fun x v H1 e s r h1 => ⟨Z, ρ, O, er.same s, tL_bindL h1 fun xs vs H2 e2 s2 r2 h2 => h2 _ _ (sameR H2) (.cons (r.same s2) r2)⟩⟩

/-! ### and, or -/
theorem snd_one {op : BoolOp} (hop : op = .And ∨ op = .Or) (ha : Bo C X W a Fa) : PE X (.BoolOp op [a] pos) (tEv C X.K W fun ρ => (Fa ρ).bind fun x => (asB x).bind fun b => .ok (.bl b)) ∧
    PW X (.BoolOp op [a] pos) (tTv C X.K W fun ρ => (Fa ρ).bind fun x => (asB x).bind fun b => .ok (.bl b)) := by
  have f2 : ∀ σ H Q, tTv C X.K W (fun ρ => (Fa ρ).bind fun x => (asB x).bind fun b => .ok (.bl b)) σ H Q → tTv C X.K W Fa σ H Q := fun σ H Q ⟨Z, ρ, O, er, h⟩ => ⟨Z, ρ, O, er, by
    have h : tG C X.K Z W (((Fa ρ).bind fun x => (asB x).bind fun b => .ok (.bl b)).bind asB) O σ H Q := h
    cases g : Fa ρ with
    | ok x =>
      rw [g] at h
      cases x with
      | bl b => exact h
      | _ => exact h.elim
    | exc x => rw [g] at h; exact h
    | bad => rw [g] at h; exact h.elim⟩
  refine ⟨pe_imp (pe_one ha.1) fun σ H Q ⟨Z, ρ, O, er, h⟩ => ⟨Z, ρ, O, er, tE_bind h fun x v H1 e s r h1 => ?_⟩, ?_⟩
  · cases x with
    | bl b => cases r; exact h1 _ _ (sameR H1) (.bl b)
    | _ => exact h1.elim
  · rcases hop with rfl | rfl
    · exact pw_imp (pw_and1 ha.2) f2
    · exact pw_imp (pw_or1 ha.2) f2
theorem snd_and (ha : Bo C X W a Fa) (hb : PE X (.BoolOp .And (b :: es) pos) (tEv C X.K W Fb) ∧ PW X (.BoolOp .And (b :: es) pos) (tTv C X.K W Fb)) :
    PE X (.BoolOp .And (a :: b :: es) pos) (tEv C X.K W fun ρ => (Fa ρ).bind fun x => (asB x).bind fun k => if k then Fb ρ else .ok (.bl false)) ∧
    PW X (.BoolOp .And (a :: b :: es) pos) (tTv C X.K W fun ρ => (Fa ρ).bind fun x => (asB x).bind fun k => if k then Fb ρ else .ok (.bl false)) := by
  refine ⟨pe_imp (pe_and ha.1 hb.1) fun σ H Q ⟨Z, ρ, O, er, h⟩ => ⟨Z, ρ, O, er, tE_bind h fun x v H1 e s r h1 => ?_⟩, pw_imp (pw_and ha.2 hb.2) fun σ H Q ⟨Z, ρ, O, er, h⟩ => ⟨Z, ρ, O, er, ?_⟩⟩
  · cases x with
    | bl k =>
      cases r
      refine ⟨k, rfl, ?_⟩
      cases k with
      | true => exact ⟨Z, ρ, O, er.same s, h1⟩
      | false => exact h1 _ _ (sameR H1) (.bl false)
    | _ => exact h1.elim
  · have h : tG C X.K Z W (((Fa ρ).bind fun x => (asB x).bind fun k => if k then Fb ρ else .ok (.bl false)).bind asB) O σ H Q := h
    cases g : Fa ρ with
    | ok x =>
      rw [g] at h
      cases x with
      | bl k =>
        intro H1 s
        cases k with
        | true => exact ⟨Z, ρ, O, er.same s, tG.same s h⟩
        | false => exact h H1 s
      | _ => exact h.elim
    | exc x => rw [g] at h; exact h
    | bad => rw [g] at h; exact h.elim
theorem snd_or (ha : Bo C X W a Fa) (hb : PE X (.BoolOp .Or (b :: es) pos) (tEv C X.K W Fb) ∧ PW X (.BoolOp .Or (b :: es) pos) (tTv C X.K W Fb)) :
    PE X (.BoolOp .Or (a :: b :: es) pos) (tEv C X.K W fun ρ => (Fa ρ).bind fun x => (asB x).bind fun k => if k then .ok (.bl true) else Fb ρ) ∧
    PW X (.BoolOp .Or (a :: b :: es) pos) (tTv C X.K W fun ρ => (Fa ρ).bind fun x => (asB x).bind fun k => if k then .ok (.bl true) else Fb ρ) := by
  refine ⟨pe_imp (pe_or ha.1 hb.1) fun σ H Q ⟨Z, ρ, O, er, h⟩ => ⟨Z, ρ, O, er, tE_bind h fun x v H1 e s r h1 => ?_⟩, pw_imp (pw_or ha.2 hb.2) fun σ H Q ⟨Z, ρ, O, er, h⟩ => ⟨Z, ρ, O, er, ?_⟩⟩
  · cases x with
    | bl k =>
      cases r
      refine ⟨k, rfl, ?_⟩
      cases k with
      | true => exact h1 _ _ (sameR H1) (.bl true)
      | false => exact ⟨Z, ρ, O, er.same s, h1⟩
    | _ => exact h1.elim
  · have h : tG C X.K Z W (((Fa ρ).bind fun x => (asB x).bind fun k => if k then .ok (.bl true) else Fb ρ).bind asB) O σ H Q := h
    cases g : Fa ρ with
    | ok x =>
      rw [g] at h
      cases x with
      | bl k =>
        intro H1 s
        cases k with
        | true => exact h H1 s
        | false => exact ⟨Z, ρ, O, er.same s, tG.same s h⟩
      | _ => exact h.elim
    | exc x => rw [g] at h; exact h
    | bad => rw [g] at h; exact h.elim

/-! ### displays -/
theorem snd_tup {k : Nat} (hs : PA X es (tLv C X.K W Fs)) (hl : ∀ ρ xs, Fs ρ = .ok xs → xs.length ≤ big) : Bo C X W (.Tuple es k pos) fun ρ => (Fs ρ).bind fun xs => .ok (.tup xs) :=
  .val (pe_tup hs) fun σ H Q ⟨Z, ρ, O, er, h⟩ => ⟨Z, ρ, O, er, tL_bind h fun xs vs H1 e s r h1 => ⟨by rw [big_eq, r.length]; exact hl ρ xs e, fun p hp => h1 _ _ (same_upd hp) ((er.same s).newTup hp r)⟩⟩
theorem snd_lst (hs : PA X es (tLv C X.K W Fs)) (hl : ∀ ρ xs, Fs ρ = .ok xs → xs.length ≤ big) : Bo C X W (.List es pos) fun ρ => (Fs ρ).bind fun xs => .ok (.lst xs) :=
  .val (pe_lst hs) fun σ H Q ⟨Z, ρ, O, er, h⟩ => ⟨Z, ρ, O, er, tL_bind h fun xs vs H1 e s r h1 => ⟨by rw [big_eq, r.length]; exact hl ρ xs e, fun p hp => h1 _ _ (same_upd hp) ((er.same s).newLst hp r)⟩⟩

/-! ### subscripts -/
theorem snd_sub (hu : X.A.units + 65 < cLine) (ha : Bo C X W a Fa) (hb : Bo C X W b Fb) (hp : plainB b = true) : Bo C X W (.Subscript a b pos) fun ρ => (Fa ρ).bind fun x => (Fb ρ).bind fun y => subP x y :=
  .val (pe_ix (ix_P hu) ha.1 hb.1 (plainIx_of hp)) (tEv_op subP_nx)
def rIxD2 : R2 := fun x y H Q => ∃ (a b : Addr) (ds : List (List Key × V)) (ks : List Key) (w : V), x = .ref a ∧ y = .ref b ∧ H a = some (.dT ds) ∧ H b = some (.tup (ks.map kV)) ∧ valV ds ks = some w ∧ Q w H
theorem ix_d2 (hu : X.A.units + 65 < cLine) : IxR X rIxD2 := by
  intro value slice pins s σ H x y v u Q I rx ry h hs
  obtain ⟨a, b, ds, ks, w, rfl, rfl, n2, m2, e1, q⟩ := h
  have G : DGet H a (.ref b) (some w) := e1 ▸ DGet.t (k := ks) n2 m2
  obtain rfl : v = Value.ref _ := rx
  exact tail_any (dict_typeIs I G) slot_dict_getitem.lookup (d_getItem (by omega) I G ry fun w' s' I' rw' => ⟨w, H, I', rw', q⟩) hs
def rIxS2 (K : Frg) : R2 := fun x y H Q => rP K subP x y H Q ∨ rIxL K x y H Q ∨ rIxD2 x y H Q
theorem ix_S2 (hu : X.A.units + 65 < cLine) : IxR X (rIxS2 X.K) := (ix_P hu).or (ix_list.or (ix_d2 hu))
theorem slot_dic {Z : Addr → Prop} {O : List Addr} {σ : L2.St} {H : Hp} {ρ : Ev} {i : Nat} {xs : List (List Int × P)} (er : EnvRep X.K Z O H σ ρ) (h : ρ[i]? = some (.od xs)) : ∃ a vs, σ[i]? = some (some (.ref a)) ∧ H a = some (.dT vs) ∧ RepD X.K (ZO Z O) H vs xs := by
  obtain ⟨o, h1, h2⟩ := er.sl i _ h
  cases h2 with
  | od n1 n2 n3 => exact ⟨_, _, h1, n2, n3⟩
theorem tEv_subv {i : Nat} (σ : L2.St) (H : Hp) (Q : VK) (h : tEv C X.K W (fun ρ => match ρ[i]? with
    | some (.fz p) => (Fb ρ).bind fun y => subP p y
    | some (.ow xs) => (Fb ρ).bind fun y => subP (.lst xs) y
    | some (.od kvs) => (Fb ρ).bind fun y => subP (.dic kvs) y
    | _ => .bad) σ H Q) : tOp (rIxS2 X.K) (tVar i) (tEv C X.K W Fb) σ H Q := by
  obtain ⟨Z, ρ, O, er, h⟩ := h
  have h : tE C X.K Z W (match ρ[i]? with
    | some (.fz p) => (Fb ρ).bind fun y => subP p y
    | some (.ow xs) => (Fb ρ).bind fun y => subP (.lst xs) y
    | some (.od kvs) => (Fb ρ).bind fun y => subP (.dic kvs) y
    | _ => .bad) O σ H Q := h
  cases g : ρ[i]? with
  | none => rw [g] at h; exact h.elim
  | some sl =>
    rw [g] at h
    cases sl with
    | fz p =>
      obtain ⟨u, e1, ru⟩ := er.get (show getS ρ i = .ok p by unfold getS; rw [g])
      refine ⟨u, e1, Z, ρ, O, er, tE_bind h fun y v H1 e s r h1 => .inl ?_⟩
      obtain ⟨q, e3, k⟩ := tE_ok (subP_nx p y) h1
      exact ⟨ZO Z O, p, y, q, fun a ha => (er.same s).fresh ha, ru.same s, r, e3, k⟩
    | ow xs =>
      obtain ⟨l, vs, e1, e2, ru⟩ := slot_seq er g
      refine ⟨_, e1, Z, ρ, O, er, tE_bind h fun y v H1 e s r h1 => .inr (.inl ?_)⟩
      obtain ⟨q, e3, k⟩ := tE_ok (subP_nx _ y) h1
      cases y with
      | int j =>
        obtain ⟨w, f1, f2⟩ := atL_of (ru.same s) e3
        cases r
        exact ⟨l, vs, j, w, rfl, rfl, .of (s _ _ e2), f1, k _ _ (sameR H1) f2⟩
      | _ => cases e3
    | od kvs =>
      obtain ⟨l, vs, e1, e2, ru⟩ := slot_dic er g
      refine ⟨_, e1, Z, ρ, O, er, tE_bind h fun y v H1 e s r h1 => .inr (.inr ?_)⟩
      obtain ⟨q, e3, k⟩ := tE_ok (subP_nx _ y) h1
      cases y with
      | tup ks =>
        have e3 : (match intsL ks with | some k => dget kvs k | none => Rs.bad) = .ok q := e3
        cases g : intsL ks with
        | none => rw [g] at e3; cases e3
        | some ns =>
          rw [g] at e3
          cases r with
          | tup m1 m2 m3 =>
            have ei := m3.ints g
            subst ei
            obtain ⟨w, f1, f2⟩ := dget_of (ru.same s) e3
            exact ⟨l, _, vs, ns.map Sum.inl, w, rfl, rfl, s _ _ e2, by rw [m2, keys_of], f1, k _ _ (sameR H1) f2⟩
      | _ => cases e3
    | un => exact h.elim
theorem snd_subv (hu : X.A.units + 65 < cLine) {i : Nat} {x : Str} {p : Pos} (h1 : X.N[i]? = some x) (h2 : Vis X.env.scope x) (h3 : nmOk x = true) (hb : Bo C X W b Fb) (hp : plainB b = true) : Bo C X W (.Subscript (.Name x p) b pos) (fun ρ => match ρ[i]? with
    | some (.fz p) => (Fb ρ).bind fun y => subP p y
    | some (.ow xs) => (Fb ρ).bind fun y => subP (.lst xs) y
    | some (.od kvs) => (Fb ρ).bind fun y => subP (.dic kvs) y
    | _ => .bad) :=
  .val (pe_ix (ix_S2 hu) (pe_var h1 h2 (nm1 h3) (nm2 h3)) hb.1 (plainIx_of hp)) tEv_subv
theorem snd_no : PO X none (tOv C X.K W fun _ => .ok none) := po_imp po_none fun σ H Q ⟨Z, ρ, O, er, h⟩ => h _ (sameR H)
theorem snd_so (ha : Bo C X W a Fa) : PO X (some a) (tOv C X.K W fun ρ => (Fa ρ).bind fun x => (asI x).bind fun i => .ok (some i)) :=
  po_imp (po_some ha.1) fun σ H Q ⟨Z, ρ, O, er, h⟩ => ⟨Z, ρ, O, er, tE_bindG h fun x v H1 e s r h1 => by
    cases x with
    | int i => cases r; exact ⟨i, rfl, h1 _ (sameR H1)⟩
    | _ => exact h1.elim⟩
theorem snd_slc {lo hi : Option Expr} {Fl Fh : Ev → Rs (Option Int)} {p2 : Pos} (ha : Bo C X W a Fa) (hl : PO X lo (tOv C X.K W Fl)) (hh : PO X hi (tOv C X.K W Fh)) :
    Bo C X W (.Subscript a (.Slice lo hi none p2) pos) fun ρ => (Fa ρ).bind fun x => (Fl ρ).bind fun l => (Fh ρ).bind fun h => slcP l h x :=
  .val (pe_slice sl_P ha.1 hl hh) fun σ H Q ⟨Z, ρ, O, er, h⟩ => ⟨Z, ρ, O, er, tE_bind h fun x v H1 e s r h1 => ⟨Z, ρ, O, er.same s, tG_bind h1 fun l H2 e2 s2 h2 => ⟨Z, ρ, O, (er.same s).same s2, tG_bind h2 fun u H3 e3 s3 h3 => by
    obtain ⟨q, e4, k⟩ := tE_ok (slcP_nx l u x) h3
    exact ⟨ZO Z O, x, q, fun a ha => (((er.same s).same s2).same s3).fresh ha, (r.same s2).same s3, e4, k⟩⟩⟩⟩

/-! ### calls -/
theorem snd_call {p : Pg} {n f : Nat} {x : Str} {e : Expr} {cp : Pos} (hf : FnAt p C X n f) (hr : Room n X.A) (tk : Takes X W) (hg : Gl X x) (hn : nmOk x = true) (hx : p.fnm f = x) (hs : PA X (e :: es) (tLv C X.K W Fs)) (hp : plainsB (e :: es) = true) :
    Bo C X W (.Call (.Name x cp) (e :: es) [] pos) fun ρ => (Fs ρ).bind fun xs => callF p.D p.G n f xs := by
  obtain ⟨fa, fd, ps, h1, h2, h3, h4⟩ := hf
  rw [hx] at h1
  have hp' : plainB e = true ∧ plainsB es = true := by
    unfold plainsB at hp
    rw [Bool.and_eq_true] at hp
    exact hp
  refine .val (pe_callS h4 hr hg h1 h2 h3 (passAt tk) hs (nm1 hn) (star_of hp'.1) (noStar hp'.2)) fun σ H Q ⟨Z, ρ, O, er, h⟩ => ⟨Z, ρ, O, er, tL_bind h fun xs vs H1 e s r h1 => ?_⟩
  refine ⟨ZO Z O, xs, fun a ha => ?_, r, h1⟩
  rcases ha with ha | ha
  · exact (er.same s).zz a ha
  · exact ((er.same s).own a ha).1
theorem tE_rC {f : Blt} {Z : Addr → Prop} {O : List Addr} {σ : L2.St} {ρ : Ev} {H : Hp} {Q : VK} {xs : List P} {vs : List V} (er : EnvRep X.K Z O H σ ρ) (h : tE C X.K Z W (bltP f xs) O σ H Q) (r : Reps X.K (ZO Z O) H vs xs) : rC X.K (bltP f) vs H Q := by
  obtain ⟨q, e, k⟩ := tE_ok (bltP_nx f xs) h
  exact ⟨ZO Z O, xs, q, fun a ha => er.fresh ha, r, e, k⟩
theorem pe_callV {f : Value} {r : List V → Hp → VK → Prop} {x : Str} {e : Expr} {p : Pos} {t : TA} (hf : (∃ id, f = .builtin id) ∨ ∃ ty, f = .type ty) (hc : CallR X f r) (hg : Gl X x) (hm : X.mg x = none) (hv : bootBuiltins x = some f) (ha : PA X (e :: es) t)
    (hn : nmOk x = true) (hp : plainsB (e :: es) = true) : PE X (.Call (.Name x p) (e :: es) [] pos) (tCB r t) := by
  have hp' : plainB e = true ∧ plainsB es = true := by
    unfold plainsB at hp
    rw [Bool.and_eq_true] at hp
    exact hp
  rcases hf with ⟨id, rfl⟩ | ⟨ty, rfl⟩
  · exact pe_callB hc hg hm hv ha (nm3 hn) (nm1 hn) (star_of hp'.1) (noStar hp'.2)
  · exact pe_callTy hc hg hm hv ha (nm3 hn) (nm1 hn) (star_of hp'.1) (noStar hp'.2)
theorem blt_kind (b : Blt) : (∃ id, bltF b = .builtin id) ∨ ∃ ty, bltF b = .type ty := by
  cases b <;> first | exact .inl ⟨_, rfl⟩ | exact .inr ⟨_, rfl⟩
theorem blt_boot (b : Blt) : bootBuiltins (bltN b) = some (bltF b) := by
  cases b <;> decide +kernel
theorem blt_nm (b : Blt) : nmOk (bltN b) = true := by
  cases b <;> decide +kernel
theorem blt_mem (b : Blt) : bltN b ∈ builtinNames := by
  cases b <;> decide +kernel
theorem snd_blt {f : Blt} {e : Expr} {p : Pos} (hc : X.calm = true) (hb : bltIs f = none) (hst : f ≠ .str) (hg : Gl X (bltN f)) (hm : X.mg (bltN f) = none) (hs : PA X (e :: es) (tLv C X.K W Fs)) (hp : plainsB (e :: es) = true) :
    Bo C X W (.Call (.Name (bltN f) p) (e :: es) [] pos) fun ρ => (Fs ρ).bind fun xs => bltP f xs :=
  .val (pe_callV (blt_kind f) (call_P hc f hb hst) hg hm (blt_boot f) hs (blt_nm f) hp) fun σ H Q ⟨Z, ρ, O, er, h⟩ => ⟨Z, ρ, O, er, tL_bind h fun xs vs H1 e s r h1 => tE_rC (er.same s) h1 r⟩
theorem isty_boot {f : Blt} {ty : String} (hb : bltIs f = some ty) : bootBuiltins (PySem.Str.ofString ty) = some (.type ty) ∧ nmOk (PySem.Str.ofString ty) = true ∧ PySem.Str.ofString ty ∈ builtinNames := by
  cases f <;> cases hb <;> exact ⟨by decide +kernel, by decide +kernel, by decide +kernel⟩
theorem snd_is {f : Blt} {ty : String} {p p2 : Pos} (hb : bltIs f = some ty) (hno : ∀ x ∈ builtinNames, X.mg x = none) (hg : Gl X "isinstance") (hg2 : Gl X (PySem.Str.ofString ty)) (ha : Bo C X W a Fa) (hp : plainB a = true) :
    Bo C X W (.Call (.Name "isinstance" p) [a, .Name (PySem.Str.ofString ty) p2] [] pos) fun ρ => (Fa ρ).bind fun x => bltP f [x] := by
  obtain ⟨b1, b2, b3⟩ := isty_boot hb
  have hE : PE X (.Name (PySem.Str.ofString ty) p2) (tC (.ty ty)) := pe_bltn hg2 (hno _ b3) b1 rfl (nm3 b2) (nm1 b2)
  refine .val (pe_callV (.inl ⟨"isinstance", rfl⟩) (call_isP hb) hg (hno "isinstance" (by decide +kernel)) (by decide +kernel) (pa_cons ha.1 (pa_cons hE pa_nil (star_of rfl)) (star_of hp)) (by decide +kernel) ?_) fun σ H Q ⟨Z, ρ, O, er, h⟩ => ⟨Z, ρ, O, er, tE_bind h fun x v H1 e s r h1 => ?_⟩
  · unfold plainsB
    rw [hp]
    rfl
  · exact ⟨v, rfl, tE_rC (er.same s) h1 (.cons r .nil)⟩
theorem snd_lenv {i : Nat} {x : Str} {p p2 : Pos} (hc : X.calm = true) (hg : Gl X "len") (hm : X.mg "len" = none) (h1 : X.N[i]? = some x) (h2 : Vis X.env.scope x) (h3 : nmOk x = true) :
    Bo C X W (.Call (.Name "len" p) [.Name x p2] [] pos) (fun ρ => match ρ[i]? with
    | some (.fz p) => bltP .len [p]
    | some (.ow xs) => .ok (.int xs.length)
    | _ => .bad) :=
  .val (pe_callV (blt_kind .len) (call_P hc .len rfl (fun h => by cases h)) hg hm (blt_boot .len) (pa_cons (pe_var h1 h2 (nm1 h3) (nm2 h3)) pa_nil (star_of rfl)) (blt_nm .len) rfl) fun σ H Q ⟨Z, ρ, O, er, h⟩ => by
    have h : tE C X.K Z W (match ρ[i]? with
      | some (.fz p) => bltP .len [p]
      | some (.ow xs) => .ok (.int xs.length)
      | _ => .bad) O σ H Q := h
    cases g : ρ[i]? with
    | none => rw [g] at h; exact h.elim
    | some sl =>
      rw [g] at h
      cases sl with
      | fz p =>
        obtain ⟨u, e1, ru⟩ := er.get (show getS ρ i = .ok p by unfold getS; rw [g])
        exact ⟨u, e1, tE_rC er h (.cons ru .nil)⟩
      | ow xs =>
        obtain ⟨l, vs, e1, e2, ru⟩ := slot_seq er g
        refine ⟨_, e1, fun _ => False, [.lst xs], .int xs.length, fun _ _ z => z, .cons (.lst (fun z => z) e2 ru.free) .nil, rfl, fun w H' s r => ?_⟩
        cases r
        exact h _ _ s (.int _)
      | _ => exact h.elim
end
end PL
end

section
set_option Elab.async false
set_option linter.all false
set_option maxRecDepth 100000
set_option maxHeartbeats 4000000
/-! PLSnd3: .. what a loop walks, comprehensions. -/
namespace PL
open PySem PySem.Spec
open PyProof.Rows
open L2 hiding start
section
variable {C : Cls} {X : Cx} {W : WX} {a b c tg : Expr} {Fa Fb Fc : Ev → Rs P} {pos p : Pos}
theorem rngOk_of {i : Int} (h : rngOk i = true) : -(2 ^ 62) ≤ i ∧ i < 2 ^ 62 := by
  unfold rngOk at h
  rw [Bool.and_eq_true] at h
  exact ⟨of_decide_eq_true h.1, of_decide_eq_true h.2⟩
theorem snd_seq (ha : Bo C X W a Fa) : PI X tg a (tIv C X.K W fun ρ => (Fa ρ).bind asS) :=
  pi_imp (pi_seq ha.1) fun σ H R ⟨Z, ρ, O, er, h⟩ => ⟨Z, ρ, O, er, tE_bindI h fun x v H1 e s r h1 => by
    cases x with
    | tup xs =>
      cases r with
      | tup n1 n2 n3 => exact ⟨_, rfl, .inr ⟨_, .of n2, fun hz => h1 _ _ (sameR H1) (iter_tup n1 n2 n3 (by rw [← n3.length]; exact hz))⟩⟩
    | lst xs =>
      cases r with
      | lst n1 n2 n3 => exact ⟨_, rfl, .inl ⟨_, .of n2, fun hz => h1 _ _ (sameR H1) (iter_list n1 n2 n3 (by rw [← n3.length]; exact hz))⟩⟩
    | _ => exact h1.elim⟩
theorem snd_rng1 (hg : Gl X "range") (hm : X.mg "range" = none) (ha : Bo C X W a Fa) (hp : plainB a = true) : PI X tg (.Call (.Name "range" p) [a] [] pos) (tIv C X.K W fun ρ => (Fa ρ).bind fun x => (asI x).bind fun j => Rs.when (rngOk j && decide (j ≤ big)) (.ok (rngL 0 j.toNat 1))) :=
  pi_imp (pi_range1 hg hm (pa_cons ha.1 pa_nil (star_of hp)) (star_of hp)) fun σ H R ⟨Z, ρ, O, er, h⟩ => ⟨Z, ρ, O, er, tE_bindI h fun x v H1 e s r h1 => by
    cases x with
    | int j =>
      cases r
      cases g : rngOk j && decide (j ≤ big) with
      | false =>
        have h1 : tI C X.K Z W (Rs.when (rngOk j && decide (j ≤ big)) (.ok (rngL 0 j.toNat 1))) O σ H1 R := h1
        rw [g] at h1
        exact h1.elim
      | true =>
        have h1 : tI C X.K Z W (Rs.when (rngOk j && decide (j ≤ big)) (.ok (rngL 0 j.toNat 1))) O σ H1 R := h1
        rw [g] at h1
        rw [Bool.and_eq_true] at g
        have hb := of_decide_eq_true g.2
        exact ⟨j, rfl, (rngOk_of g.1).1, (rngOk_of g.1).2, h1 _ _ (sameR H1) (iter_rng (by omega))⟩
    | _ => exact h1.elim⟩
theorem snd_rng2 (hg : Gl X "range") (hm : X.mg "range" = none) (ha : Bo C X W a Fa) (hb : Bo C X W b Fb) (hp : plainB a = true) (hq : plainB b = true) :
    PI X tg (.Call (.Name "range" p) [a, b] [] pos) (tIv C X.K W fun ρ => (Fa ρ).bind fun x => (Fb ρ).bind fun y => (asI x).bind fun i => (asI y).bind fun j => Rs.when (rngOk i && rngOk j && decide (j - i ≤ big)) (.ok (rngL i (j - i).toNat 1))) :=
  pi_imp (pi_range2 hg hm (pa_cons ha.1 (pa_cons hb.1 pa_nil (star_of hq)) (star_of hp)) (by rw [star_of hp, star_of hq]; rfl) (star_of hq)) fun σ H R ⟨Z, ρ, O, er, h⟩ => ⟨Z, ρ, O, er, tE_bindI h fun x v H1 e s r h1 =>
    ⟨Z, ρ, O, er.same s, tE_bindI h1 fun y u H2 e2 s2 r2 h2 => by
    cases x with
    | int i =>
      cases y with
      | int j =>
        cases r
        cases r2
        have h2 : tI C X.K Z W (Rs.when (rngOk i && rngOk j && decide (j - i ≤ big)) (.ok (rngL i (j - i).toNat 1))) O σ H2 R := h2
        cases g : rngOk i && rngOk j && decide (j - i ≤ big) with
        | false =>
          rw [g] at h2
          exact h2.elim
        | true =>
          rw [g] at h2
          rw [Bool.and_eq_true, Bool.and_eq_true] at g
          have hb := of_decide_eq_true g.2
          exact ⟨i, j, rfl, ⟨(rngOk_of g.1.1).1, (rngOk_of g.1.1).2, (rngOk_of g.1.2).1, (rngOk_of g.1.2).2⟩, h2 _ _ (sameR H2) (iter_rng (by omega))⟩
      | _ => exact h2.elim
    | _ => exact h2.elim⟩⟩
theorem snd_rng3 (hg : Gl X "range") (hm : X.mg "range" = none) (ha : Bo C X W a Fa) (hb : Bo C X W b Fb) (hc : Bo C X W c Fc) (hp : plainB a = true) (hq : plainB b = true) (hr : plainB c = true) :
    PI X tg (.Call (.Name "range" p) [a, b, c] [] pos) (tIv C X.K W fun ρ => (Fa ρ).bind fun x => (Fb ρ).bind fun y => (Fc ρ).bind fun z => (asI x).bind fun i => (asI y).bind fun j => (asI z).bind fun k =>
      Rs.when (rngOk i && rngOk j && decide (k = -1) && decide (i - j ≤ big)) (.ok (rngL i (i - j).toNat (-1)))) :=
  pi_imp (pi_range3 hg hm (pa_cons ha.1 (pa_cons hb.1 (pa_cons hc.1 pa_nil (star_of hr)) (star_of hq)) (star_of hp)) (star_of hp) (noStar (es := [b, c]) (by unfold plainsB plainsB plainsB; rw [hq, hr]; rfl))) fun σ H R ⟨Z, ρ, O, er, h⟩ => ⟨Z, ρ, O, er, tE_bindI h fun x v H1 e s r h1 =>
    ⟨Z, ρ, O, er.same s, tE_bindI h1 fun y u H2 e2 s2 r2 h2 => ⟨Z, ρ, O, (er.same s).same s2, tE_bindI h2 fun z w H3 e3 s3 r3 h3 => by
    cases x with
    | int i =>
      cases y with
      | int j =>
        cases z with
        | int k =>
          cases r
          cases r2
          cases r3
          have h3 : tI C X.K Z W (Rs.when (rngOk i && rngOk j && decide (k = -1) && decide (i - j ≤ big)) (.ok (rngL i (i - j).toNat (-1)))) O σ H3 R := h3
          cases g : rngOk i && rngOk j && decide (k = -1) && decide (i - j ≤ big) with
          | false =>
            rw [g] at h3
            exact h3.elim
          | true =>
            rw [g] at h3
            rw [Bool.and_eq_true, Bool.and_eq_true, Bool.and_eq_true] at g
            have hb := of_decide_eq_true g.2
            have hk := of_decide_eq_true g.1.2
            exact ⟨i, j, -1, _, by rw [hk], RgC.neg (rngOk_of g.1.1.1).1 (rngOk_of g.1.1.1).2 (rngOk_of g.1.1.2).1 (rngOk_of g.1.1.2).2, h3 _ _ (sameR H3) (iter_rngC (by omega))⟩
        | _ => exact h3.elim
      | _ => exact h3.elim
    | _ => exact h3.elim⟩⟩⟩
theorem tupB_of (h : tupB tg = true) : ∃ es k q, tg = .Tuple es k q := by
  cases tg <;> first | exact ⟨_, _, _, rfl⟩ | cases h
theorem snd_zip (hg : Gl X "zip") (hm : X.mg "zip" = none) (ht : tupB tg = true) (ha : Bo C X W a Fa) (hb : Bo C X W b Fb) (hp : plainB a = true) (hq : plainB b = true) :
    PI X tg (.Call (.Name "zip" p) [a, b] [] pos) (tIv C X.K W fun ρ => (Fa ρ).bind fun x => (Fb ρ).bind fun y => zipP x y) := by
  obtain ⟨es, k, q, rfl⟩ := tupB_of ht
  refine pi_imp (RZ.pi_zipA hg hm (pa_cons ha.1 (pa_cons hb.1 pa_nil (star_of hq)) (star_of hp)) (star_of hp) (noStar (es := [b]) (by unfold plainsB plainsB; rw [hq]; rfl))) fun σ H R ⟨Z, ρ, O, er, h⟩ => ⟨Z, ρ, O, er, tE_bindI h fun x v H1 e s r h1 =>
    ⟨Z, ρ, O, er.same s, tE_bindI h1 fun y u H2 e2 s2 r2 h2 => ?_⟩⟩
  have r := r.same s2
  cases x with
  | tup xs =>
    cases y with
    | tup ys =>
      have h2 : tI C X.K Z W (Rs.when (decide (xs.length ≤ big)) (.ok ((xs.zip ys).map fun p => .tup [p.1, p.2]))) O σ H2 R := h2
      cases g : decide (xs.length ≤ big) with
      | false => rw [g] at h2; exact h2.elim
      | true =>
        rw [g] at h2
        have hl := of_decide_eq_true g
        cases r with
        | tup n1 n2 n3 =>
          cases r2 with
          | tup m1 m2 m3 => exact ⟨_, _, _, _, rfl, .inr ⟨.of n2, .of m2, h2 _ _ (sameR H2) (iter_zipT n1 n2 n3 m1 m2 m3 (by rw [n3.length]; exact hl))⟩⟩
    | _ => exact h2.elim
  | lst xs =>
    cases y with
    | lst ys =>
      have h2 : tI C X.K Z W (Rs.when (decide (xs.length ≤ big)) (.ok ((xs.zip ys).map fun p => .tup [p.1, p.2]))) O σ H2 R := h2
      cases g : decide (xs.length ≤ big) with
      | false => rw [g] at h2; exact h2.elim
      | true =>
        rw [g] at h2
        have hl := of_decide_eq_true g
        cases r with
        | lst n1 n2 n3 =>
          cases r2 with
          | lst m1 m2 m3 => exact ⟨_, _, _, _, rfl, .inl ⟨.of n2, .of m2, h2 _ _ (sameR H2) (iter_zip n1 n2 n3 m1 m2 m3 (by rw [n3.length]; exact hl))⟩⟩
    | _ => exact h2.elim
  | _ => exact h2.elim
theorem snd_enum (hg : Gl X "enumerate") (hm : X.mg "enumerate" = none) (ht : tupB tg = true) (ha : Bo C X W a Fa) (hp : plainB a = true) :
    PI X tg (.Call (.Name "enumerate" p) [a] [] pos) (tIv C X.K W fun ρ => (Fa ρ).bind fun x => enumP x) := by
  obtain ⟨es, k, q, rfl⟩ := tupB_of ht
  refine pi_imp (pi_enum hg hm (pa_cons ha.1 pa_nil (star_of hp)) (star_of hp)) fun σ H R ⟨Z, ρ, O, er, h⟩ => ⟨Z, ρ, O, er, tE_bindI h fun x v H1 e s r h1 => ?_⟩
  cases x with
  | lst xs =>
    have h1 : tI C X.K Z W (Rs.when (decide (xs.length ≤ big)) (.ok ((xs.zipIdx).map fun p => .tup [.int p.2, p.1]))) O σ H1 R := h1
    cases g : decide (xs.length ≤ big) with
    | false => rw [g] at h1; exact h1.elim
    | true =>
      rw [g] at h1
      have hl := of_decide_eq_true g
      cases r with
      | lst n1 n2 n3 => exact ⟨_, _, rfl, .of n2, h1 _ _ (sameR H1) (iter_enum n1 n2 n3 (by rw [n3.length]; exact hl))⟩
  | _ => exact h1.elim

/-! ### list(range(..)) -/
def tRv (C : Cls) (K : Frg) (W : WX) (F : Ev → Rs (Int × Int)) : L2.St → Hp → (Int → Int → Hp → Prop) → Prop := fun σ H Q => ∃ Z ρ O, EnvRep K Z O H σ ρ ∧ tG C K Z W (F ρ) O σ H (fun k H1 => Q k.1 k.2 H1)
theorem prg_imp {e : Expr} {t t' : L2.St → Hp → (Int → Int → Hp → Prop) → Prop} (h : PRg X e t) (f : ∀ σ H Q, t' σ H Q → t σ H Q) : PRg X e t' := fun pins s σ H Q I q => h pins s σ H Q I (f σ H Q q)
theorem snd_prg1 (hg : Gl X "range") (hm : X.mg "range" = none) (ha : Bo C X W a Fa) (hp : plainB a = true) : PRg X (.Call (.Name "range" p) [a] [] pos) (tRv C X.K W fun ρ => (Fa ρ).bind fun x => (asI x).bind fun j => .ok (0, j)) :=
  prg_imp (prg_1 hg hm ha.1 (star_of hp)) fun σ H Q ⟨Z, ρ, O, er, h⟩ => ⟨Z, ρ, O, er, tE_bindG h fun x v H1 e s r h1 => by
    cases x with
    | int j => cases r; exact ⟨j, rfl, h1 _ (sameR H1)⟩
    | _ => exact h1.elim⟩
theorem snd_prg2 (hg : Gl X "range") (hm : X.mg "range" = none) (ha : Bo C X W a Fa) (hb : Bo C X W b Fb) (hp : plainB a = true) (hq : plainB b = true) :
    PRg X (.Call (.Name "range" p) [a, b] [] pos) (tRv C X.K W fun ρ => (Fa ρ).bind fun x => (Fb ρ).bind fun y => (asI x).bind fun i => (asI y).bind fun j => .ok (i, j)) :=
  prg_imp (prg_2 hg hm ha.1 hb.1 (star_of hp) (star_of hq) (noStar (es := [b]) (by unfold plainsB plainsB; rw [hq]; rfl))) fun σ H Q ⟨Z, ρ, O, er, h⟩ => ⟨Z, ρ, O, er, tE_bindG h fun x v H1 e s r h1 => ⟨Z, ρ, O, er.same s, tE_bindG h1 fun y u H2 e2 s2 r2 h2 => by
    cases x with
    | int i =>
      cases y with
      | int j => cases r; cases r2; exact ⟨i, j, rfl, rfl, h2 _ (sameR H2)⟩
      | _ => exact h2.elim
    | _ => exact h2.elim⟩⟩
theorem rep_rg {K : Frg} {B : Addr → Prop} {H : Hp} (i : Int) : ∀ n : Nat, Reps K B H ((List.range n).map fun k => V.int (i + (k : Nat))) ((List.range n).map fun k => P.int (i + (k : Nat) * 1)) := by
  intro n
  induction n with
  | zero => exact .nil
  | succ n ih =>
    rw [List.range_succ, List.map_append, List.map_append]
    refine ih.append (.cons ?_ .nil)
    show Rep K B H (V.int (i + (n : Nat))) (P.int (i + (n : Nat) * 1))
    rw [Int.mul_one]
    exact .int _
theorem lrng_of {e : Expr} {i j : Int} {Z : Addr → Prop} {O : List Addr} {σ : L2.St} {ρ : Ev} {H : Hp} {Q : VK} (er : EnvRep X.K Z O H σ ρ) (hi : rngOk i = true) (hj : rngOk j = true) (hl : j - i ≤ big) (q : ∀ v H', Same H H' → Rep X.K (ZO Z O) H' v (.lst (rngL i (j - i).toNat 1)) → Q v H') :
    RgOk i j ∧ ∀ q, H q = none → Q (.ref q) (upd H q (.lst (rgV i j))) :=
  ⟨⟨(rngOk_of hi).1, (rngOk_of hi).2, (rngOk_of hj).1, (rngOk_of hj).2, by have hl : j - i ≤ 16777216 := hl; show (j - i).toNat ≤ 16777216; omega⟩, fun a ha => q _ _ (same_upd ha) (er.newLst ha (rep_rg i _))⟩
theorem snd_lrng1 {p2 pos2 : Pos} (hc : X.calm = true) (hl : Gl X "list") (hml : X.mg "list" = none) (hg : Gl X "range") (hm : X.mg "range" = none) (ha : Bo C X W a Fa) (hp : plainB a = true) :
    Bo C X W (.Call (.Name "list" p2) [.Call (.Name "range" p) [a] [] pos] [] pos2) (fun ρ => ((Fa ρ).bind fun x => (asI x).bind fun j => Rs.when (rngOk j && decide (j ≤ big)) (.ok (rngL 0 j.toNat 1))).bind fun xs => .ok (.lst xs)) :=
  .val (pe_listRg hc hl hml (snd_prg1 (C := C) (W := W) hg hm ha hp)) fun σ H Q ⟨Z, ρ, O, er, h⟩ => ⟨Z, ρ, O, er, by
    have h : tE C X.K Z W (((Fa ρ).bind fun x => (asI x).bind fun j => Rs.when (rngOk j && decide (j ≤ big)) (.ok (rngL 0 j.toNat 1))).bind fun xs => .ok (.lst xs)) O σ H Q := h
    show tG C X.K Z W ((Fa ρ).bind fun x => (asI x).bind fun j => .ok ((0 : Int), j)) O σ H _
    cases g : Fa ρ with
    | ok x =>
      rw [g] at h
      cases x with
      | int j =>
        intro H1 s
        have h : tE C X.K Z W ((Rs.when (rngOk j && decide (j ≤ big)) (.ok (rngL 0 j.toNat 1))).bind fun xs => .ok (.lst xs)) O σ H Q := h
        cases g2 : rngOk j && decide (j ≤ big) with
        | false => rw [g2] at h; exact h.elim
        | true =>
          rw [g2] at h
          rw [Bool.and_eq_true] at g2
          have hb := of_decide_eq_true g2.2
          exact lrng_of (e := a) (er.same s) (show rngOk 0 = true by decide) g2.1 (by show j - 0 ≤ (big : Int); omega) (by rw [Int.sub_zero]; exact tE.same s h)
      | _ => exact h.elim
    | exc x => rw [g] at h; exact h
    | bad => rw [g] at h; exact h.elim⟩
theorem snd_lrng2 {p2 pos2 : Pos} (hc : X.calm = true) (hl : Gl X "list") (hml : X.mg "list" = none) (hg : Gl X "range") (hm : X.mg "range" = none) (ha : Bo C X W a Fa) (hb : Bo C X W b Fb) (hp : plainB a = true) (hq : plainB b = true) :
    Bo C X W (.Call (.Name "list" p2) [.Call (.Name "range" p) [a, b] [] pos] [] pos2) (fun ρ => ((Fa ρ).bind fun x => (Fb ρ).bind fun y => (asI x).bind fun i => (asI y).bind fun j => Rs.when (rngOk i && rngOk j && decide (j - i ≤ big)) (.ok (rngL i (j - i).toNat 1))).bind fun xs => .ok (.lst xs)) :=
  .val (pe_listRg hc hl hml (snd_prg2 (C := C) (W := W) hg hm ha hb hp hq)) fun σ H Q ⟨Z, ρ, O, er, h⟩ => ⟨Z, ρ, O, er, by
    have h : tE C X.K Z W (((Fa ρ).bind fun x => (Fb ρ).bind fun y => (asI x).bind fun i => (asI y).bind fun j => Rs.when (rngOk i && rngOk j && decide (j - i ≤ big)) (.ok (rngL i (j - i).toNat 1))).bind fun xs => .ok (.lst xs)) O σ H Q := h
    show tG C X.K Z W ((Fa ρ).bind fun x => (Fb ρ).bind fun y => (asI x).bind fun i => (asI y).bind fun j => .ok (i, j)) O σ H _
    cases g : Fa ρ with
    | ok x =>
      rw [g] at h
      cases gb : Fb ρ with
      | ok y =>
        rw [gb] at h
        cases x with
        | int i =>
          cases y with
          | int j =>
            intro H1 s
            have h : tE C X.K Z W ((Rs.when (rngOk i && rngOk j && decide (j - i ≤ big)) (.ok (rngL i (j - i).toNat 1))).bind fun xs => .ok (.lst xs)) O σ H Q := h
            cases g2 : rngOk i && rngOk j && decide (j - i ≤ big) with
            | false => rw [g2] at h; exact h.elim
            | true =>
              rw [g2] at h
              rw [Bool.and_eq_true, Bool.and_eq_true] at g2
              exact lrng_of (e := a) (er.same s) g2.1.1 g2.1.2 (of_decide_eq_true g2.2) (tE.same s h)
          | _ => exact h.elim
        | _ => exact h.elim
      | exc x => rw [gb] at h; exact h
      | bad => rw [gb] at h; exact h.elim
    | exc x => rw [g] at h; exact h
    | bad => rw [g] at h; exact h.elim⟩
end
end PL
end

section
set_option Elab.async false
set_option linter.all false
set_option maxRecDepth 100000
set_option maxHeartbeats 4000000
/-! PLComp: comprehensions. -/
namespace PL
open PySem PySem.Spec
open PyProof.Rows
open L2 hiding start
theorem it_w {J : It} {n : Nat} {G : Hp → Prop} {Y : Nat → Hp → V → Hp → Prop} (w : Walk J n G Y) {H1 : Hp} {Qd : Hp → Prop} {S : V → Hp → (Hp → Prop) → Prop} (Pv : Nat → Hp → Prop) (h0 : Pv 0 H1) (hG : ∀ i H, i ≤ n → Pv i H → G H)
    (hs : ∀ i x H H', i < n → Pv i H → Y i H x H' → S x H' (Pv (i + 1))) (hd : ∀ H, Pv n H → Qd H) :
    ∃ Wn : Nat → Nat → Hp → Prop, (∃ m, Wn 0 m H1) ∧ ∀ i m H, Wn i m H → (J.stop i H ∧ Qd H) ∨ (J.go i H ∧ ∃ Nx : Hp → Prop, (∀ H', Nx H' → ∃ m', m' < m ∧ Wn (i + 1) m' H') ∧ ∀ x H', J.yld i H x H' → S x H' Nx) := by
  refine ⟨fun i m H => m + i = n ∧ Pv i H, ⟨n, rfl, h0⟩, fun i m H hw => ?_⟩
  obtain ⟨e, p⟩ := hw
  have q := hG i H (by omega) p
  by_cases hlt : i < n
  · exact .inr ⟨w.goes i H hlt q, Pv (i + 1), fun H' p' => ⟨m - 1, by omega, by omega, p'⟩, fun x H' y => hs i x H H' hlt p (w.yields i H x H' hlt q y)⟩
  · have e : i = n := by omega
    subst e
    exact .inl ⟨w.stops H q, hd H p⟩
def ZD (Z : Addr → Prop) (D : Addr) : Addr → Prop := fun a => Z a ∨ a = D
section
variable {K : Frg} {Z : Addr → Prop} {O : List Addr} {H H' : Hp} {σ : L2.St} {ρ : Ev} {D : Addr}
theorem EnvRep.blk (er : EnvRep K Z O H σ ρ) (hD : H D = none) (s : Same H H') (hD' : (H' D).isSome = true) : EnvRep K (ZD Z D) O H' σ ρ := by
  have zz : ∀ a, ZO (ZD Z D) O a → ZO Z O a ∨ H a = none := fun a h => by
    rcases h with (h | rfl) | h
    · exact .inl (.inl h)
    · exact .inr hD
    · exact .inl (.inr h)
  refine ⟨er.len, fun i t h => ?_, er.one, fun a h => ⟨some_same s (er.own a h).1, fun z => ?_⟩, fun a h => ?_⟩
  · obtain ⟨o, h1, h2⟩ := er.sl i t h
    refine ⟨o, h1, ?_⟩
    cases h2 with
    | un => exact .un
    | fz r => exact .fz (r.keep (same_kp s) zz)
    | ow n1 n2 n3 => exact .ow n1 (s _ _ n2) (n3.keep (same_kp s) zz)
    | od n1 n2 n3 => exact .od n1 (s _ _ n2) (n3.keep (same_kp s) zz)
  · rcases z with z | rfl
    · exact (er.own a h).2 z
    · have := (er.own a h).1
      rw [hD] at this
      cases this
  · rcases h with h | rfl
    · exact some_same s (er.zz a h)
    · exact hD'
theorem EnvRep.mut (er : EnvRep K Z O H σ ρ) (hz : Z D) (s : ∀ a o, a ≠ D → H a = some o → H' a = some o) (hD' : (H' D).isSome = true) : EnvRep K Z O H' σ ρ := by
  have nz : ∀ {a}, ¬ ZO Z O a → a ≠ D := fun h e => h (.inl (e ▸ hz))
  have kp : Keep (ZO Z O) H H' := fun a o h e => s a o (nz h) e
  have so : ∀ {a o}, a ∈ O → H a = some o → H' a = some o := fun {a o} h e => s a o (fun z => (er.own a h).2 (z ▸ hz)) e
  refine ⟨er.len, fun i t h => ?_, er.one, fun a h => ⟨?_, (er.own a h).2⟩, fun a h => ?_⟩
  · obtain ⟨o, h1, h2⟩ := er.sl i t h
    refine ⟨o, h1, ?_⟩
    cases h2 with
    | un => exact .un
    | fz r => exact .fz (r.keep kp fun _ h => .inl h)
    | ow n1 n2 n3 => exact .ow n1 (so n1 n2) (n3.keep kp fun _ h => .inl h)
    | od n1 n2 n3 => exact .od n1 (so n1 n2) (n3.keep kp fun _ h => .inl h)
  · obtain ⟨o, e⟩ := Option.isSome_iff_exists.mp (er.own a h).1
    rw [so h e]
    rfl
  · by_cases e : a = D
    · subst e; exact hD'
    · obtain ⟨o, q⟩ := Option.isSome_iff_exists.mp (er.zz a h)
      rw [s a o e q]
      rfl
end
theorem compP_cons {f : P → Rs (Option P)} {x : P} {r ys : List P} (h : compP f (x :: r) = .ok ys) : ∃ o ys', f x = .ok o ∧ compP f r = .ok ys' ∧ ys = o.toList ++ ys' := by
  obtain ⟨o, h1, h⟩ := Rs.bind_ok_inv (show (f x).calm.bind _ = _ from h)
  obtain ⟨ys', h2, h⟩ := Rs.bind_ok_inv h
  have e : f x = .ok o := by
    cases g : f x with
    | ok a => rw [g] at h1; exact h1
    | _ => rw [g] at h1; cases h1
  refine ⟨o, ys', e, h2, ?_⟩
  cases o <;> (cases h; rfl)
theorem compP2_cons {f : P → Rs (List P)} {x : P} {r ys : List P} (h : compP2 f (x :: r) = .ok ys) : ∃ o ys', f x = .ok o ∧ compP2 f r = .ok ys' ∧ ys = o ++ ys' := by
  obtain ⟨o, h1, h⟩ := Rs.bind_ok_inv (show (f x).calm.bind _ = _ from h)
  obtain ⟨ys', h2, h⟩ := Rs.bind_ok_inv h
  have e : f x = .ok o := by
    cases g : f x with
    | ok a => rw [g] at h1; exact h1
    | _ => rw [g] at h1; cases h1
  exact ⟨o, ys', e, h2, by cases h; rfl⟩
theorem drop_at {α : Type} {xs : List α} {i : Nat} {p : α} (h : xs[i]? = some p) : xs.drop i = p :: xs.drop (i + 1) := by
  obtain ⟨hi, e⟩ := List.getElem?_eq_some_iff.mp h
  rw [List.drop_eq_getElem_cons hi, e]
theorem none_of {H H' : Hp} {D : Addr} (s : Same H H') (h : H' D = none) : H D = none := by
  cases e : H D with
  | none => rfl
  | some o => rw [s _ _ e] at h; cases h
theorem upd_other {H : Hp} {D : Addr} {o : HO} : ∀ a x, a ≠ D → H a = some x → upd H D o a = some x := fun a x ne e => by
  rw [upd_ne ne]
  exact e
section
variable {C : Cls} {X : Cx} {W : WX} {pos : Pos}
/-- an element's step -/
def stepP (Ft : Ev → Rs Ev) (Fc : Ev → Rs Bool) (Fe : Ev → Rs P) (ρ : Ev) : Rs (Option P) := (Ft ρ).bind fun ρ1 => (Fc ρ1).bind fun k => if k then (Fe ρ1).bind fun y => .ok (some y) else .ok none
theorem step_inv {Ft : Ev → Rs Ev} {Fc : Ev → Rs Bool} {Fe : Ev → Rs P} {ρ : Ev} {o : Option P} (h : stepP Ft Fc Fe ρ = .ok o) : ∃ ρ1 k, Ft ρ = .ok ρ1 ∧ Fc ρ1 = .ok k ∧ ((k = false ∧ o = none) ∨ (k = true ∧ ∃ y, Fe ρ1 = .ok y ∧ o = some y)) := by
  obtain ⟨ρ1, h1, h⟩ := Rs.bind_ok_inv h
  obtain ⟨k, h2, h⟩ := Rs.bind_ok_inv h
  refine ⟨ρ1, k, h1, h2, ?_⟩
  cases k with
  | false => cases h; exact .inl ⟨rfl, rfl⟩
  | true =>
    obtain ⟨y, h3, h⟩ := Rs.bind_ok_inv h
    cases h
    exact .inr ⟨rfl, y, h3, rfl⟩
/-- what an element's evaluation is to do -/
theorem lc_step {t : Tg} {own : List Nat} {Fc : Ev → Rs Bool} {Fe : Ev → Rs P} {Z : Addr → Prop} {O : List Addr} {σ : L2.St} {ρ : Ev} {H' : Hp} {D : Addr} {x : V} {p : P} {o : Option P} {W1 W2 : WX} {N : Hp → Prop} {vs : List V}
    (hw : ∀ i ∈ slotsT t, i ∈ own) (er : EnvRep X.K Z O H' σ ρ) (rp : Rep X.K (ZO Z O) H' x p) (e : stepP (fun ρ => bindT t p (wipeS own ρ)) Fc Fe ρ = .ok o)
    (hD : H' D = some (.lst vs)) (hl : o.isSome = true → vs.length < sizeLine)
    (k0 : o = none → ∀ H'', Same H' H'' → N H'') (k1 : ∀ y, o = some y → ∀ v H'', Same H' H'' → Rep X.K (ZO Z O) H'' v y → N (upd H'' D (.lst (vs ++ [v])))) :
    gT X.K t x (wipe σ own) H' fun σ2 H2 => wipe σ2 own = wipe σ own ∧ tCv C X.K W1 Fc σ2 H2 fun b H3 =>
      if b = true then tEv C X.K W2 Fe σ2 H3 fun y H4 => ∃ acc, H4 D = some (.lst acc) ∧ acc.length < sizeLine ∧ N (upd H4 D (.lst (acc ++ [y]))) else N H3 := by
  obtain ⟨ρ1, k, e1, e2, e3⟩ := step_inv e
  refine ⟨Z, _, O, p, ρ1, er.wiped own, rp, e1, fun σ2 er2 so => ⟨?_, Z, ρ1, O, er2, ?_⟩⟩
  · have h1 : SameOut own (wipe σ own) σ2 := ⟨so.1, fun i hi => so.2 i fun z => hi (hw i z)⟩
    rw [h1.wipe, wipe_wipe]
  · rw [e2]
    intro H3 s3
    rcases e3 with ⟨rfl, e4⟩ | ⟨rfl, y, e4, e5⟩
    · exact k0 e4 H3 s3
    · refine ⟨Z, ρ1, O, er2.same s3, ?_⟩
      rw [e4]
      intro v H4 s4 r
      exact ⟨vs, s4 _ _ (s3 _ _ hD), hl (by rw [e5]; rfl), k1 y e5 v H4 (same_tr s3 s4) r⟩
/-- a new list -/
def tN (C : Cls) (K : Frg) (Z : Addr → Prop) (W : WX) (r : Rs (List P)) (O : List Addr) (σ : L2.St) (H : Hp) (Q : VK) : Prop := match r with
  | .ok ys => ∀ D vs H', H D = none → Same H H' → H' D = some (.lst vs) → Reps K (ZO (ZD Z D) O) H' vs ys → Q (.ref D) H'
  | .exc x => tX C K Z W O σ H x
  | .bad => False
def tNv (C : Cls) (K : Frg) (W : WX) (F : Ev → Rs (List P)) : TE := fun σ H Q => ∃ Z ρ O, EnvRep K Z O H σ ρ ∧ tN C K Z W (F ρ) O σ H Q
theorem zd_zo {Z : Addr → Prop} {D : Addr} {O : List Addr} {H : Hp} : ∀ a, ZO Z O a → ZO (ZD Z D) O a ∨ H a = none := fun a ha => by
  rcases ha with ha | ha
  · exact .inl (.inl (.inl ha))
  · exact .inl (.inr ha)
theorem tN_of {F : Ev → Rs (List P)} {σ : L2.St} {H : Hp} {Q : VK} (h : tEv C X.K W (fun ρ => (F ρ).bind fun ys => .ok (.lst ys)) σ H Q) : tNv C X.K W F σ H Q := by
  obtain ⟨Z, ρ, O, er, h⟩ := h
  refine ⟨Z, ρ, O, er, ?_⟩
  have h : tE C X.K Z W ((F ρ).bind fun ys => .ok (.lst ys)) O σ H Q := h
  cases g : F ρ with
  | exc x => rw [g] at h; exact h
  | bad => rw [g] at h; exact h.elim
  | ok ys =>
    rw [g] at h
    exact fun D vs H' hD s hv r => h _ _ s (.lst (er.fresh hD) hv (r.keep (fun _ _ _ h => h) zd_zo))
theorem lcN {t : Tg} {own : List Nat} {Fi : Ev → Rs (List P)} {Fc : Ev → Rs Bool} {Fe : Ev → Rs P} {W1 W2 : WX} (hw : ∀ i ∈ slotsT t, i ∈ own) (σ : L2.St) (H : Hp) (Q : VK)
    (h : tNv C X.K W (fun ρ => (Fi ρ).bind fun xs => compP (fun x => stepP (fun ρ => bindT t x (wipeS own ρ)) Fc Fe ρ) xs) σ H Q) :
    tLc (tIv C X.K W Fi) (gT X.K t) (tCv C X.K W1 Fc) (tEv C X.K W2 Fe) own σ H Q := by
  obtain ⟨Z, ρ, O, er, h⟩ := h
  refine ⟨Z, ρ, O, er, ?_⟩
  have h : tN C X.K Z W ((Fi ρ).bind fun xs => compP (fun x => stepP (fun ρ => bindT t x (wipeS own ρ)) Fc Fe ρ) xs) O σ H Q := h
  cases g : Fi ρ with
  | exc x => rw [g] at h; exact h
  | bad => rw [g] at h; exact h.elim
  | ok xs =>
    rw [g] at h
    intro J H1 s ir D hD
    have h : tN C X.K Z W (compP (fun x => stepP (fun ρ => bindT t x (wipeS own ρ)) Fc Fe ρ) xs) O σ H Q := h
    cases e : compP (fun x => stepP (fun ρ => bindT t x (wipeS own ρ)) Fc Fe ρ) xs with
    | exc x => exact absurd e (compP_nx _ _ x)
    | bad => rw [e] at h; exact h.elim
    | ok ys =>
      rw [e] at h
      have q : ∀ D vs H', H D = none → Same H H' → H' D = some (.lst vs) → Reps X.K (ZO (ZD Z D) O) H' vs ys → Q (.ref D) H' := h
      have er1 := er.same s
      obtain ⟨hz, G, Y, w, gm, yy⟩ := ir
      have hlen : ∀ {H : Hp}, Same H1 H → ¬ ZO Z O D := fun _ => er1.fresh hD
      have mv : ∀ {H : Hp}, Same H1 H → Mv (ZO Z O) H1 (ZO (ZD Z D) O) H := fun s' => ⟨fun a o _ e => s' a o e, fun a ha => by
        rcases ha with (ha | rfl) | ha
        · exact .inl (.inl ha)
        · exact .inr hD
        · exact .inl (.inr ha)⟩
      refine it_w w (fun i H => Same H1 H ∧ ∃ vs ys0 ys1, H D = some (.lst vs) ∧ Reps X.K (ZO (ZD Z D) O) H vs ys0 ∧ compP (fun x => stepP (fun ρ => bindT t x (wipeS own ρ)) Fc Fe ρ) (xs.drop i) = .ok ys1 ∧ ys0 ++ ys1 = ys ∧ vs.length ≤ i)
        ⟨same_upd hD, [], [], ys, upd_same, .nil, e, rfl, Nat.le_refl _⟩ (fun i H _ p => gm _ H (mv p.1)) ?_ ?_
      · rintro i x H2 H3 hi ⟨s2, vs, ys0, ys1, hv, r, ec, ea, hl⟩ y
        have er2 := er1.blk hD s2 (by rw [hv]; rfl)
        obtain ⟨s3, p, hp, rp⟩ := yy i x _ H2 H3 hi (mv s2) (fun a ha => er2.fresh ha) y
        rw [drop_at hp] at ec
        obtain ⟨o, ys', e1, e2, e3⟩ := compP_cons ec
        refine lc_step hw (er2.same s3) rp e1 (s3 _ _ hv) (fun _ => by rw [big_eq]; omega) (fun ho H4 s4 => ?_) (fun y ho v H4 s4 rv => ?_)
        · subst ho
          exact ⟨same_tr s2 (same_tr s3 s4), vs, ys0, ys', s4 _ _ (s3 _ _ hv), (r.same s3).same s4, e2, by rw [← ea, e3]; rfl, by omega⟩
        · subst ho
          have kp : Keep (ZO (ZD Z D) O) H4 (upd H4 D (.lst (vs ++ [v]))) := fun a o na e => upd_other a o (fun z => na (.inl (.inr z))) e
          refine ⟨fun a o e => upd_other a o (fun z => by rw [z, hD] at e; cases e) (same_tr s2 (same_tr s3 s4) a o e), vs ++ [v], ys0 ++ [y], ys', upd_same, ?_, e2, by rw [← ea, e3]; simp, by rw [List.length_append]; simp; omega⟩
          exact (((r.same s3).same s4).append (.cons rv .nil)).keep kp fun _ h => .inl h
      · rintro H2 ⟨s2, vs, ys0, ys1, hv, r, ec, ea, hl⟩
        rw [List.drop_length] at ec
        cases ec
        rw [List.append_nil] at ea
        subst ea
        exact q D vs H2 (none_of s hD) (same_tr s s2) hv r
theorem lc_of {t : Tg} {own : List Nat} {Fi : Ev → Rs (List P)} {Fc : Ev → Rs Bool} {Fe : Ev → Rs P} {W1 W2 : WX} (hw : ∀ i ∈ slotsT t, i ∈ own) (σ : L2.St) (H : Hp) (Q : VK)
    (h : tEv C X.K W (fun ρ => (Fi ρ).bind fun xs => (compP (fun x => stepP (fun ρ => bindT t x (wipeS own ρ)) Fc Fe ρ) xs).bind fun ys => .ok (.lst ys)) σ H Q) :
    tLc (tIv C X.K W Fi) (gT X.K t) (tCv C X.K W1 Fc) (tEv C X.K W2 Fe) own σ H Q := by
  refine lcN hw σ H Q (tN_of ?_)
  have e : (fun ρ => ((Fi ρ).bind fun xs => compP (fun x => stepP (fun ρ => bindT t x (wipeS own ρ)) Fc Fe ρ) xs).bind fun ys => .ok (P.lst ys)) = fun ρ => (Fi ρ).bind fun xs => (compP (fun x => stepP (fun ρ => bindT t x (wipeS own ρ)) Fc Fe ρ) xs).bind fun ys => .ok (.lst ys) := by
    funext ρ
    cases Fi ρ <;> rfl
  rw [e]
  exact h
theorem lc2_of {t t2 : Tg} {own own2 : List Nat} {Fi Fj : Ev → Rs (List P)} {Fc : Ev → Rs Bool} {Fe : Ev → Rs P} {W1 W2 W3 : WX} (hw : ∀ i ∈ slotsT t, i ∈ own) (hw2 : ∀ i ∈ slotsT t2, i ∈ own2) (σ : L2.St) (H : Hp) (Q : VK)
    (h : tEv C X.K W (fun ρ => (Fi ρ).bind fun xs => (compP2 (fun x => (bindT t x (wipeS own ρ)).bind fun ρ1 => (Fj ρ1).bind fun xs2 => compP (fun x2 => stepP (fun ρ => bindT t2 x2 (wipeS own2 ρ)) Fc Fe ρ1) xs2) xs).bind fun ys => Rs.when (decide (ys.length ≤ big)) (.ok (.lst ys))) σ H Q) :
    tLc2 (tIv C X.K W Fi) (gT X.K t) tYes (tIv C X.K W3 Fj) (gT X.K t2) (tCv C X.K W1 Fc) (tEv C X.K W2 Fe) own own2 σ H Q := by
  obtain ⟨Z, ρ, O, er, h⟩ := h
  refine ⟨Z, ρ, O, er, ?_⟩
  have h : tE C X.K Z W ((Fi ρ).bind fun xs => (compP2 (fun x => (bindT t x (wipeS own ρ)).bind fun ρ1 => (Fj ρ1).bind fun xs2 => compP (fun x2 => stepP (fun ρ => bindT t2 x2 (wipeS own2 ρ)) Fc Fe ρ1) xs2) xs).bind fun ys => Rs.when (decide (ys.length ≤ big)) (.ok (.lst ys))) O σ H Q := h
  cases g : Fi ρ with
  | exc x => rw [g] at h; exact h
  | bad => rw [g] at h; exact h.elim
  | ok xs =>
    rw [g] at h
    intro J H1 s ir D hD
    obtain ⟨lst', e0, q⟩ := tE_ok (nx_bind (compP2_nx _ _) fun _ => nx_when nx_ok) h
    obtain ⟨ys, e, e'⟩ := Rs.bind_ok_inv e0
    obtain ⟨hbig, e'⟩ := Rs.when_ok e'
    have hbig := of_decide_eq_true hbig
    cases e'
    have er1 := er.same s
    obtain ⟨hz, G, Y, w, gm, yy⟩ := ir
    have mv : ∀ {H : Hp}, Same H1 H → Mv (ZO Z O) H1 (ZO (ZD Z D) O) H := fun s' => ⟨fun a o _ e => s' a o e, fun a ha => by
      rcases ha with (ha | rfl) | ha
      · exact .inl (.inl ha)
      · exact .inr hD
      · exact .inl (.inr ha)⟩
    refine it_w w (S := fun x H' Nx => gT X.K t x (wipe σ own) H' fun σ2 H2 => wipe σ2 own = wipe σ own ∧ tYes σ2 H2 fun b H3 => if b = true then tIv C X.K W3 Fj σ2 H3 fun J1 H4 => _ else Nx H3)
      (fun i H => Same H1 H ∧ ∃ vs ys0 ys1, H D = some (.lst vs) ∧ Reps X.K (ZO (ZD Z D) O) H vs ys0 ∧ compP2 (fun x => (bindT t x (wipeS own ρ)).bind fun ρ1 => (Fj ρ1).bind fun xs2 => compP (fun x2 => stepP (fun ρ => bindT t2 x2 (wipeS own2 ρ)) Fc Fe ρ1) xs2) (xs.drop i) = .ok ys1 ∧ ys0 ++ ys1 = ys)
      ⟨same_upd hD, [], [], ys, upd_same, .nil, e, rfl⟩ (fun i H _ p => gm _ H (mv p.1)) ?_ ?_
    · rintro i x H2 H3 hi ⟨s2, vs, ys0, ys1, hv, r, ec, ea⟩ y
      have er2 := er1.blk hD s2 (by rw [hv]; rfl)
      obtain ⟨s3, p, hp, rp⟩ := yy i x _ H2 H3 hi (mv s2) (fun a ha => er2.fresh ha) y
      rw [drop_at hp] at ec
      obtain ⟨o, ys', e1, e2, e3⟩ := compP2_cons ec
      obtain ⟨ρ1, f1, e1⟩ := Rs.bind_ok_inv e1
      obtain ⟨xs2, f2, f3⟩ := Rs.bind_ok_inv e1
      have er3 := er2.same s3
      refine ⟨ZD Z D, _, O, p, ρ1, er3.wiped own, rp, f1, fun σ2 er4 so => ⟨?_, ZD Z D, ρ1, O, er4, ?_⟩⟩
      · have h1 : SameOut own (wipe σ own) σ2 := ⟨so.1, fun i hi => so.2 i fun z => hi (hw i z)⟩
        rw [h1.wipe, wipe_wipe]
      · rw [f2]
        intro J1 H4 s4 ir2
        obtain ⟨hz2, G2, Y2, w2, gm2, yy2⟩ := ir2
        have er5 := er4.same s4
        refine it_w w2 (S := fun x H' Nx => gT X.K t2 x (wipe σ2 own2) H' fun σ3 H5 => wipe σ3 own2 = wipe σ2 own2 ∧ tCv C X.K W1 Fc σ3 H5 fun b H6 => if b = true then tEv C X.K W2 Fe σ3 H6 fun y H7 => ∃ acc, H7 D = some (.lst acc) ∧ acc.length < sizeLine ∧ Nx (upd H7 D (.lst (acc ++ [y]))) else Nx H6)
          (fun j H => (∀ a o, a ≠ D → H4 a = some o → H a = some o) ∧ ∃ vs zs0 zs1, H D = some (.lst vs) ∧ Reps X.K (ZO (ZD Z D) O) H vs (ys0 ++ zs0) ∧ compP (fun x2 => stepP (fun ρ => bindT t2 x2 (wipeS own2 ρ)) Fc Fe ρ1) (xs2.drop j) = .ok zs1 ∧ zs0 ++ zs1 = o)
          ⟨fun _ _ _ h => h, vs, [], o, s4 _ _ (s3 _ _ hv), by rw [List.append_nil]; exact (r.same s3).same s4, f3, rfl⟩ (fun j H _ p => gm2 _ H ⟨fun a o na e => p.1 a o (fun z => na (.inl (.inr z))) e, fun _ h => .inl h⟩) ?_ ?_
        · rintro j x2 H5 H6 hj ⟨s5, vs', zs0, zs1, hv', r', ec', ea'⟩ y'
          have er6 := er5.mut (D := D) (.inr rfl) s5 (by rw [hv']; rfl)
          obtain ⟨s6, p2, hp2, rp2⟩ := yy2 j x2 _ H5 H6 hj ⟨fun a o na e => s5 a o (fun z => na (.inl (.inr z))) e, fun _ h => .inl h⟩ (fun a ha => er6.fresh ha) y'
          rw [drop_at hp2] at ec'
          obtain ⟨o', zs', g1, g2, g3⟩ := compP_cons ec'
          refine lc_step hw2 (er6.same s6) rp2 g1 (s6 _ _ hv') (fun ho => ?_) (fun ho H7 s7 => ?_) (fun y ho v H7 s7 rv => ?_)
          · obtain ⟨y, rfl⟩ := Option.isSome_iff_exists.mp ho
            have hl := r'.length
            rw [big_eq, hl]
            have : (ys0 ++ (zs0 ++ (y :: zs')) ++ ys').length ≤ big := by
              have : ys0 ++ (zs0 ++ (y :: zs')) ++ ys' = ys := by rw [← ea, e3, ← ea', g3]; simp
              rw [this]
              exact hbig
            simp only [List.length_append, List.length_cons] at this ⊢
            omega
          · subst ho
            exact ⟨fun a o ne e => s7 a o (s6 a o (s5 a o ne e)), vs', zs0, zs', s7 _ _ (s6 _ _ hv'), (r'.same s6).same s7, g2, by rw [← ea', g3]; rfl⟩
          · subst ho
            have kp : Keep (ZO (ZD Z D) O) H7 (upd H7 D (.lst (vs' ++ [v]))) := fun a o na e => upd_other a o (fun z => na (.inl (.inr z))) e
            refine ⟨fun a o ne e => upd_other a o ne (s7 a o (s6 a o (s5 a o ne e))), vs' ++ [v], zs0 ++ [y], zs', upd_same, ?_, g2, by rw [← ea', g3]; simp⟩
            rw [← List.append_assoc]
            exact (((r'.same s6).same s7).append (.cons rv .nil)).keep kp fun _ h => .inl h
        · rintro H5 ⟨s5, vs', zs0, zs1, hv', r', ec', ea'⟩
          rw [List.drop_length] at ec'
          cases ec'
          rw [List.append_nil] at ea'
          subst ea'
          exact ⟨fun a o e => s5 a o (fun z => by rw [z, hD] at e; cases e) (s4 _ _ (s3 _ _ (s2 _ _ e))), vs', ys0 ++ zs0, ys', hv', r', e2, by rw [← ea, e3]; simp⟩
    · rintro H2 ⟨s2, vs, ys0, ys1, hv, r, ec, ea⟩
      rw [List.drop_length] at ec
      cases ec
      rw [List.append_nil] at ea
      subst ea
      exact q _ _ (same_tr s s2) (.lst (er1.fresh hD) hv (r.keep (fun _ _ _ h => h) fun a ha => by
        rcases ha with ha | ha
        · exact .inl (.inl (.inl ha))
        · exact .inl (.inr ha)))
end
end PL
end

section
set_option Elab.async false
set_option linter.all false
set_option maxRecDepth 100000
set_option maxHeartbeats 4000000
/-! PLInv: what a checked text looks like. -/
namespace PL
open PySem PySem.Spec
open PyProof.Rows
open L2 hiding start
theorem and_t {a b : Bool} (h : (a && b) = true) : a = true ∧ b = true := by rwa [Bool.and_eq_true] at h
section
variable {T : Tx} {sc : Nms} {ee : Expr}
theorem inv_v {i : Nat} (h : trE T sc (.v i) ee = true) : ∃ x p, ee = .Name x p ∧ slotB T sc i x = true := by
  cases ee <;> first | (cases h; done) | skip
  exact ⟨_, _, rfl, h⟩
theorem inv_c {p : P} (h : trE T sc (.c p) ee = true) : (∃ k j q, ee = .Constant k j q ∧ constB p k = true) ∨ (∃ q, ee = .Dict [] [] q ∧ p = .dic []) := by
  cases ee with
  | Constant k j q =>
    refine .inl ⟨_, _, _, rfl, ?_⟩
    cases p with
    | dic kvs => cases kvs <;> exact h
    | _ => exact h
  | Dict ks vs q =>
    rcases ks with _ | _ <;> rcases vs with _ | _ <;> cases p <;> first | (cases h; done) | skip
    all_goals (rename_i kvs; rcases kvs with _ | _ <;> first | (cases h; done) | exact .inr ⟨_, rfl, rfl⟩)
  | _ => cases p with
    | dic kvs => cases kvs <;> cases h
    | _ => cases h
theorem inv_g {k : Nat} (h : trE T sc (.g k) ee = true) : ∃ x p, ee = .Name x p ∧ glB sc x = true ∧ nmOk x = true ∧ T.p.gnm k = x ∧ k < T.p.ng := by
  cases ee <;> first | (cases h; done) | skip
  replace h := and_t h; obtain ⟨h1, h⟩ := h
  replace h := and_t h; obtain ⟨h2, h⟩ := h
  replace h := and_t h; obtain ⟨h3, h⟩ := h
  exact ⟨_, _, rfl, h1, h2, of_decide_eq_true h3, of_decide_eq_true h⟩
theorem inv_bin {o : BOp} {a b : IE} (h : trE T sc (.bin o a b) ee = true) : ∃ ea eb p, ee = .BinOp ea (bopE o) eb p ∧ trE T sc a ea = true ∧ trE T sc b eb = true := by
  cases ee <;> first | (cases h; done) | skip
  replace h := and_t h; obtain ⟨h1, h⟩ := h
  replace h := and_t h; obtain ⟨h2, h⟩ := h
  have e := of_decide_eq_true h1
  subst e
  exact ⟨_, _, _, rfl, h2, h⟩
theorem inv_neg {a : IE} (h : trE T sc (.neg a) ee = true) : ∃ ea p, ee = .UnaryOp .USub ea p ∧ trE T sc a ea = true := by
  cases ee <;> first | (cases h; done) | skip
  replace h := and_t h; obtain ⟨h1, h⟩ := h
  have e := of_decide_eq_true h1
  subst e
  exact ⟨_, _, rfl, h⟩
theorem inv_not {a : IE} (h : trE T sc (.not a) ee = true) : ∃ ea p, ee = .UnaryOp .Not ea p ∧ trE T sc a ea = true := by
  cases ee <;> first | (cases h; done) | skip
  replace h := and_t h; obtain ⟨h1, h⟩ := h
  have e := of_decide_eq_true h1
  subst e
  exact ⟨_, _, rfl, h⟩
theorem inv_cmp {o : COp} {a b : IE} (h : trE T sc (.cmp o a b) ee = true) : ∃ ea eb p, ee = .Compare ea [copE o] [eb] p ∧ trE T sc a ea = true ∧ trE T sc b eb = true ∧ plainB eb = true := by
  cases ee <;> first | (cases h; done) | skip
  rename_i l ops cs pos
  rcases ops with _ | ⟨op, _ | ⟨op2, ops⟩⟩ <;> rcases cs with _ | ⟨c, _ | ⟨c2, cs⟩⟩ <;> first | (cases h; done) | skip
  replace h := and_t h; obtain ⟨h1, h⟩ := h
  replace h := and_t h; obtain ⟨h2, h⟩ := h
  replace h := and_t h; obtain ⟨h3, h⟩ := h
  have e := of_decide_eq_true h1
  subst e
  exact ⟨_, _, _, rfl, h2, h3, h⟩
theorem inv_inv {neg : Bool} {a : IE} {i : Nat} (h : trE T sc (.inv neg a i) ee = true) : ∃ ea x q p, ee = .Compare ea [if neg then .NotIn else .In] [.Name x q] p ∧ trE T sc a ea = true ∧ slotB T sc i x = true := by
  cases ee <;> first | (cases h; done) | skip
  rename_i l ops cs pos
  rcases ops with _ | ⟨op, _ | ⟨op2, ops⟩⟩ <;> rcases cs with _ | ⟨c, _ | ⟨c2, cs⟩⟩ <;> first | (cases h; done) | skip
  all_goals (cases c <;> first | (cases h; done) | skip)
  replace h := and_t h; obtain ⟨h1, h⟩ := h
  replace h := and_t h; obtain ⟨h2, h⟩ := h
  have e := of_decide_eq_true h1
  subst e
  exact ⟨_, _, _, _, rfl, h2, h⟩
theorem inv_chain {o o' : COp} {a b c : IE} (h : trE T sc (.chain o o' a b c) ee = true) : ∃ ea eb ec p, ee = .Compare ea [copE o, copE o'] [eb, ec] p ∧ trE T sc a ea = true ∧ trE T sc b eb = true ∧ trE T sc c ec = true ∧ plainB ec = true := by
  cases ee <;> first | (cases h; done) | skip
  rename_i l ops cs pos
  rcases ops with _ | ⟨op, _ | ⟨op2, _ | ⟨op3, ops⟩⟩⟩ <;> rcases cs with _ | ⟨c, _ | ⟨c2, _ | ⟨c3, cs⟩⟩⟩ <;> first | (cases h; done) | skip
  replace h := and_t h; obtain ⟨h1, h⟩ := h
  replace h := and_t h; obtain ⟨h2, h⟩ := h
  replace h := and_t h; obtain ⟨h3, h⟩ := h
  replace h := and_t h; obtain ⟨h4, h⟩ := h
  replace h := and_t h; obtain ⟨h5, h⟩ := h
  have e := of_decide_eq_true h1
  subst e
  have e := of_decide_eq_true h2
  subst e
  exact ⟨_, _, _, _, rfl, h3, h4, h5, h⟩
theorem inv_band {es : IEs} (h : trE T sc (.band es) ee = true) : ∃ vs p, ee = .BoolOp .And vs p ∧ trEs T sc es vs = true := by
  cases ee <;> first | (cases h; done) | skip
  replace h := and_t h; obtain ⟨h1, h⟩ := h
  have e := of_decide_eq_true h1
  subst e
  exact ⟨_, _, rfl, h⟩
theorem inv_bor {es : IEs} (h : trE T sc (.bor es) ee = true) : ∃ vs p, ee = .BoolOp .Or vs p ∧ trEs T sc es vs = true := by
  cases ee <;> first | (cases h; done) | skip
  replace h := and_t h; obtain ⟨h1, h⟩ := h
  have e := of_decide_eq_true h1
  subst e
  exact ⟨_, _, rfl, h⟩
theorem inv_ite {c a b : IE} (h : trE T sc (.ite c a b) ee = true) : ∃ ec ea eb p, ee = .IfExp ec ea eb p ∧ trE T sc c ec = true ∧ trE T sc a ea = true ∧ trE T sc b eb = true := by
  cases ee <;> first | (cases h; done) | skip
  replace h := and_t h; obtain ⟨h1, h⟩ := h
  replace h := and_t h; obtain ⟨h2, h⟩ := h
  exact ⟨_, _, _, _, rfl, h1, h2, h⟩
theorem inv_tup {es : IEs} (h : trE T sc (.tup es) ee = true) : ∃ vs k p, ee = .Tuple vs k p ∧ vs.length ≤ big ∧ trEs T sc es vs = true ∧ plainsB vs = true := by
  cases ee <;> first | (cases h; done) | skip
  replace h := and_t h; obtain ⟨h1, h⟩ := h
  replace h := and_t h; obtain ⟨h2, h⟩ := h
  exact ⟨_, _, _, rfl, of_decide_eq_true h1, h2, h⟩
theorem inv_lst {es : IEs} (h : trE T sc (.lst es) ee = true) : ∃ vs p, ee = .List vs p ∧ vs.length ≤ big ∧ trEs T sc es vs = true ∧ plainsB vs = true := by
  cases ee <;> first | (cases h; done) | skip
  replace h := and_t h; obtain ⟨h1, h⟩ := h
  replace h := and_t h; obtain ⟨h2, h⟩ := h
  exact ⟨_, _, rfl, of_decide_eq_true h1, h2, h⟩
theorem inv_sub {a i : IE} (h : trE T sc (.sub a i) ee = true) : ∃ ea ei p, ee = .Subscript ea ei p ∧ trE T sc a ea = true ∧ trE T sc i ei = true ∧ plainB ei = true := by
  cases ee <;> first | (cases h; done) | skip
  replace h := and_t h; obtain ⟨h1, h⟩ := h
  replace h := and_t h; obtain ⟨h2, h⟩ := h
  exact ⟨_, _, _, rfl, h1, h2, h⟩
theorem inv_subv {i : Nat} {a : IE} (h : trE T sc (.subv i a) ee = true) : ∃ x q ei p, ee = .Subscript (.Name x q) ei p ∧ slotB T sc i x = true ∧ trE T sc a ei = true ∧ plainB ei = true := by
  cases ee <;> first | (cases h; done) | skip
  rename_i l ix pos
  cases l <;> first | (cases h; done) | skip
  replace h := and_t h; obtain ⟨h1, h⟩ := h
  replace h := and_t h; obtain ⟨h2, h⟩ := h
  exact ⟨_, _, _, _, rfl, h1, h2, h⟩
theorem inv_lenv {i : Nat} (h : trE T sc (.lenv i) ee = true) : ∃ x q q2 p, ee = .Call (.Name "len" q2) [.Name x q] [] p ∧ glB sc "len" = true ∧ slotB T sc i x = true := by
  cases ee <;> first | (cases h; done) | skip
  rename_i f as ks pos
  cases f <;> first | (cases h; done) | skip
  rcases as with _ | ⟨a, _ | ⟨a2, as⟩⟩ <;> first | (cases h; done) | skip
  all_goals (cases a <;> first | (cases h; done) | skip)
  rcases ks with _ | _ <;> first | (cases h; done) | skip
  replace h := and_t h; obtain ⟨h1, h⟩ := h
  replace h := and_t h; obtain ⟨h2, h⟩ := h
  have e := of_decide_eq_true h2
  subst e
  exact ⟨_, _, _, _, rfl, h1, h⟩
theorem inv_lrng {it : II} (h : trE T sc (.lrng it) ee = true) : ∃ r q p, ee = .Call (.Name "list" q) [r] [] p ∧ glB sc "list" = true ∧ trR T sc it r = true := by
  cases ee <;> first | (cases h; done) | skip
  rename_i f as ks pos
  cases f <;> first | (cases h; done) | skip
  rcases as with _ | ⟨a, _ | ⟨a2, as⟩⟩ <;> rcases ks with _ | _ <;> first | (cases h; done) | skip
  replace h := and_t h; obtain ⟨h1, h⟩ := h
  replace h := and_t h; obtain ⟨h2, h⟩ := h
  have e := of_decide_eq_true h2
  subst e
  exact ⟨_, _, _, rfl, h1, h⟩
theorem inv_slc {a : IE} {lo hi : IEo} (h : trE T sc (.slc a lo hi) ee = true) : ∃ ea l u q p, ee = .Subscript ea (.Slice l u none q) p ∧ trE T sc a ea = true ∧ trO T sc lo l = true ∧ trO T sc hi u = true := by
  cases ee <;> first | (cases h; done) | skip
  rename_i l ix pos
  cases ix <;> first | (cases h; done) | skip
  rename_i l u st q
  cases st <;> first | (cases h; done) | skip
  replace h := and_t h; obtain ⟨h1, h⟩ := h
  replace h := and_t h; obtain ⟨h2, h⟩ := h
  exact ⟨_, _, _, _, _, rfl, h1, h2, h⟩
theorem inv_call {f : Nat} {es : IEs} (h : trE T sc (.call f es) ee = true) : ∃ e r q p, ee = .Call (.Name (T.p.fnm f) q) (e :: r) [] p ∧ glB sc (T.p.fnm f) = true ∧ nmOk (T.p.fnm f) = true ∧ (T.p.D f).isSome = true ∧ trEs T sc es (e :: r) = true ∧ plainsB (e :: r) = true := by
  cases ee <;> first | (cases h; done) | skip
  rename_i g as ks pos
  cases g <;> first | (cases h; done) | skip
  rcases as with _ | ⟨a, as⟩ <;> rcases ks with _ | _ <;> first | (cases h; done) | skip
  replace h := and_t h; obtain ⟨h1, h⟩ := h
  replace h := and_t h; obtain ⟨h2, h⟩ := h
  replace h := and_t h; obtain ⟨h3, h⟩ := h
  replace h := and_t h; obtain ⟨h5, h⟩ := h
  replace h := and_t h; obtain ⟨h4, h⟩ := h
  have e := of_decide_eq_true h3
  subst e
  exact ⟨_, _, _, _, rfl, h1, h2, h5, h4, h⟩
theorem inv_blt {f : Blt} {es : IEs} (h : trE T sc (.blt f es) ee = true) :
    (∃ e r q p, bltIs f = none ∧ ee = .Call (.Name (bltN f) q) (e :: r) [] p ∧ glB sc (bltN f) = true ∧ f ≠ .str ∧ trEs T sc es (e :: r) = true ∧ plainsB (e :: r) = true) ∨
    (∃ ty a ea q q2 p, bltIs f = some ty ∧ es = .cons a .nil ∧ ee = .Call (.Name "isinstance" q) [ea, .Name (PySem.Str.ofString ty) q2] [] p ∧ glB sc "isinstance" = true ∧ glB sc (PySem.Str.ofString ty) = true ∧ trE T sc a ea = true ∧ plainB ea = true) := by
  cases ee <;> first | (cases h; done) | skip
  rename_i g as ks pos
  cases g <;> first | (cases h; done) | skip
  rcases as with _ | ⟨a, as⟩ <;> rcases ks with _ | _ <;> first | (cases h; done) | skip
  unfold trE at h
  replace h := and_t h; obtain ⟨h1, h⟩ := h
  cases hb : bltIs f with
  | none =>
    rw [hb] at h
    replace h := and_t h; obtain ⟨h2, h⟩ := h
    replace h := and_t h; obtain ⟨h3, h⟩ := h
    replace h := and_t h; obtain ⟨h4, h⟩ := h
    have e := of_decide_eq_true h2
    subst e
    refine .inl ⟨_, _, _, _, rfl, rfl, h1, fun z => ?_, h4, h⟩
    have := of_decide_eq_true h3
    rw [z] at this
    exact this rfl
  | some ty =>
    rw [hb] at h
    rcases es with _ | ⟨e, es⟩ <;> first | (cases h; done) | skip
    rcases es with _ | _ <;> first | (cases h; done) | skip
    rcases as with _ | ⟨a2, _ | ⟨a3, as⟩⟩ <;> first | (cases h; done) | skip
    · cases a2 <;> first | (cases h; done) | skip
      replace h := and_t h; obtain ⟨h2, h⟩ := h
      replace h := and_t h; obtain ⟨h3, h⟩ := h
      replace h := and_t h; obtain ⟨h4, h⟩ := h
      replace h := and_t h; obtain ⟨h5, h⟩ := h
      have e := of_decide_eq_true h2
      subst e
      have e := of_decide_eq_true h4
      subst e
      exact .inr ⟨_, _, _, _, _, _, rfl, rfl, rfl, h1, h3, h5, h⟩
    · cases a2 <;> cases h
theorem inv_comp {e : IE} {t : Tg} {own : List Nat} {it : II} {c : IEo} (h : trE T sc (.comp e t own it c) ee = true) : ∃ elt tg iter ifs scope p, ee = .ListComp elt [⟨tg, iter, ifs, 0⟩] scope p ∧ trI T sc tg it iter = true ∧ blkB T sc scope own = true ∧ trT T scope.names t tg = true ∧ (slotsT t).all (inL own) = true ∧ trE T scope.names e elt = true ∧ trC T scope.names c ifs = true := by
  cases ee <;> first | (cases h; done) | skip
  rename_i elt gs scope pos
  rcases gs with _ | ⟨⟨tg, iter, ifs, k⟩, _ | ⟨g2, gs⟩⟩ <;> first | (cases h; done) | skip
  · rcases k with (_ | k) | k
    · replace h := and_t h; obtain ⟨h1, h⟩ := h
      replace h := and_t h; obtain ⟨h2, h⟩ := h
      replace h := and_t h; obtain ⟨h3, h⟩ := h
      replace h := and_t h; obtain ⟨h4, h⟩ := h
      replace h := and_t h; obtain ⟨h5, h⟩ := h
      exact ⟨_, _, _, _, _, _, rfl, h1, h2, h3, h4, h5, h⟩
    · cases h
    · cases h
  · rcases k with (_ | k) | k <;> cases h
theorem inv_comp2 {e : IE} {t t2 : Tg} {own own2 : List Nat} {it it2 : II} {c : IEo} (h : trE T sc (.comp2 e t own it t2 own2 it2 c) ee = true) : ∃ elt tg iter tg2 iter2 ifs scope p, ee = .ListComp elt [⟨tg, iter, [], 0⟩, ⟨tg2, iter2, ifs, 0⟩] scope p ∧ trI T sc tg it iter = true ∧ blkB T sc scope own = true ∧ trT T scope.names t tg = true ∧
    (slotsT t).all (inL own) = true ∧ own2.all (inL own) = true ∧ trI T scope.names tg2 it2 iter2 = true ∧ trT T scope.names t2 tg2 = true ∧ (slotsT t2).all (inL own2) = true ∧ trE T scope.names e elt = true ∧ trC T scope.names c ifs = true := by
  cases ee <;> first | (cases h; done) | skip
  rename_i elt gs scope pos
  rcases gs with _ | ⟨⟨tg, iter, ifs, k⟩, _ | ⟨⟨tg2, iter2, ifs2, k2⟩, _ | ⟨g3, gs⟩⟩⟩
  · cases h
  · rcases ifs with _ | _ <;> rcases k with (_ | k) | k <;> cases h
  · rcases ifs with _ | _
    · rcases k with (_ | k) | k
      · rcases k2 with (_ | k2) | k2
        · replace h := and_t h; obtain ⟨h1, h⟩ := h
          replace h := and_t h; obtain ⟨h2, h⟩ := h
          replace h := and_t h; obtain ⟨h3, h⟩ := h
          replace h := and_t h; obtain ⟨h4, h⟩ := h
          replace h := and_t h; obtain ⟨h5, h⟩ := h
          replace h := and_t h; obtain ⟨h6, h⟩ := h
          replace h := and_t h; obtain ⟨h7, h⟩ := h
          replace h := and_t h; obtain ⟨h8, h⟩ := h
          replace h := and_t h; obtain ⟨h9, h⟩ := h
          exact ⟨_, _, _, _, _, _, _, _, rfl, h1, h2, h3, h4, h5, h6, h7, h8, h9, h⟩
        · cases h
        · cases h
      · cases h
      · cases h
    · rcases k with (_ | k) | k <;> cases h
  · rcases ifs with _ | _
    · rcases k with (_ | k) | k
      · rcases k2 with (_ | k2) | k2 <;> cases h
      · cases h
      · cases h
    · rcases k with (_ | k) | k <;> cases h
theorem all_in {own : List Nat} {l : List Nat} (h : l.all (inL own) = true) : ∀ i ∈ l, i ∈ own := fun i hi => by
  have q := List.all_eq_true.mp h i hi
  unfold inL at q
  obtain ⟨j, hj, e⟩ := List.any_eq_true.mp q
  have := of_decide_eq_true e
  subst this
  exact hj
end
end PL
end

section
set_option Elab.async false
set_option linter.all false
set_option maxRecDepth 100000
set_option maxHeartbeats 4000000
/-! PLMain: an expression of the language, checked against the program's text, is what the text gives. -/
namespace PL
open PySem PySem.Spec
open PyProof.Rows
open L2 hiding start
section
variable {T : Tx} {C : Cls} {n : Nat} {X : Cx} {sc : Nms} {W : WX}
theorem Gb.no1 {p : Pg} (g : Gb p C n X) (x : Str) (h : x ∈ builtinNames := by decide +kernel) : X.mg x = none := g.no x h
theorem evs_len {Γ : Nat → List P → Rs P} {G : Nat → P} : ∀ {es : IEs} {vs : List Expr} {ρ : Ev} {xs : List P}, trEs T sc es vs = true → evs Γ G es ρ = .ok xs → xs.length = vs.length
  | .nil, vs, ρ, xs, h, e => by
    rcases vs with _ | _
    · cases e; rfl
    · cases h
  | .cons a r, vs, ρ, xs, h, e => by
    rcases vs with _ | ⟨v, vs⟩
    · cases h
    · replace h := and_t h; obtain ⟨h1, h⟩ := h
      obtain ⟨x, e1, e⟩ := Rs.bind_ok_inv (show (ev Γ G a ρ).bind _ = _ from e)
      obtain ⟨ys, e2, e⟩ := Rs.bind_ok_inv e
      cases e
      rw [List.length_cons, List.length_cons, evs_len h e2]
theorem plains_of {e : Expr} {es : List Expr} (h : plainsB (e :: es) = true) : plainB e = true ∧ plainsB es = true := by
  unfold plainsB at h
  rwa [Bool.and_eq_true] at h
theorem slot3 {i : Nat} {x : Str} (S : Sc T.N X sc) (h : slotB T sc i x = true) : X.N[i]? = some x ∧ Vis X.env.scope x ∧ nmOk x = true := slot_of S h
theorem pts_imp {ifs : List Expr} {t t' : TT} (h : PTs X ifs t) (f : ∀ σ H Q, t' σ H Q → t σ H Q) : PTs X ifs t' := ⟨fun pins s σ H Q I q => h.run pins s σ H Q I (f σ H Q q)⟩
theorem trI_plain {tg : Expr} {it : II} {e : Expr} (h : trI T sc tg it e = true) : plainB e = true := by
  cases it with
  | seq a => exact (and_t h).2
  | _ => cases e <;> first | rfl | cases h
end
def SE (T : Tx) (C : Cls) (n : Nat) (e : IE) : Prop := ∀ (X : Cx) (sc : Nms) (W : WX) (ee : Expr), Sc T.N X sc → Gb T.p C n X → Takes X W → trE T sc e ee = true → Bo C X W ee (ev (callF T.p.D T.p.G n) T.p.G e)
def SEs (T : Tx) (C : Cls) (n : Nat) (es : IEs) : Prop := ∀ (X : Cx) (sc : Nms) (W : WX) (vs : List Expr), Sc T.N X sc → Gb T.p C n X → Takes X W → trEs T sc es vs = true →
  (plainsB vs = true → PA X vs (tLv C X.K W (evs (callF T.p.D T.p.G n) T.p.G es))) ∧
  (∀ pos, es ≠ .nil → PE X (.BoolOp .And vs pos) (tEv C X.K W (evAnd (callF T.p.D T.p.G n) T.p.G es)) ∧ PW X (.BoolOp .And vs pos) (tTv C X.K W (evAnd (callF T.p.D T.p.G n) T.p.G es))) ∧
  (∀ pos, es ≠ .nil → PE X (.BoolOp .Or vs pos) (tEv C X.K W (evOr (callF T.p.D T.p.G n) T.p.G es)) ∧ PW X (.BoolOp .Or vs pos) (tTv C X.K W (evOr (callF T.p.D T.p.G n) T.p.G es)))
def SEo (T : Tx) (C : Cls) (n : Nat) (e : IEo) : Prop := ∀ (X : Cx) (sc : Nms) (W : WX), Sc T.N X sc → Gb T.p C n X → Takes X W →
  (∀ o, trO T sc e o = true → PO X o (tOv C X.K W (evo (callF T.p.D T.p.G n) T.p.G e))) ∧ (∀ ifs, trC T sc e ifs = true → PTs X ifs (tCv C X.K W (evc (callF T.p.D T.p.G n) T.p.G e)))
def SI (T : Tx) (C : Cls) (n : Nat) (it : II) : Prop := ∀ (X : Cx) (sc : Nms) (W : WX) (tg e : Expr), Sc T.N X sc → Gb T.p C n X → Takes X W →
  (trI T sc tg it e = true → PI X tg e (tIv C X.K W (evi (callF T.p.D T.p.G n) T.p.G it))) ∧
  (∀ q p, glB sc "list" = true → trR T sc it e = true → Bo C X W (.Call (.Name "list" q) [e] [] p) (fun ρ => (evi (callF T.p.D T.p.G n) T.p.G it ρ).bind fun xs => .ok (.lst xs)))
section
variable {T : Tx} {C : Cls} {n : Nat}
theorem se_comp {e : IE} {t : Tg} {own : List Nat} {it : II} {c : IEo} (se : SE T C n e) (si : SI T C n it) (sc' : SEo T C n c) : SE T C n (.comp e t own it c) := by
  intro X sc W ee S g tk h
  obtain ⟨elt, tg, iter, ifs, scope, p, rfl, h1, h2, h3, h4, h5, h6⟩ := inv_comp h
  refine .val (pe_lc g.calm g.nd ((si X sc W tg iter S g tk).1 h1) (blk_of S h2) (g := gT X.K t) (tt := tCv C X.K (fun _ _ _ _ => False) (evc (callF T.p.D T.p.G n) T.p.G c)) (te := tEv C X.K (fun _ _ _ _ => False) (ev (callF T.p.D T.p.G n) T.p.G e)) (fun s H a cl fp => ?_) (fun s H a cl fp => ?_) (fun s H a cl fp => ?_) (fold_of (trI_plain h1))) fun σ H Q hh => ?_
  · have S' := S.blk s H scope cl a fp
    exact snd_T S' g.calm g.nd t tg h3
  · exact (sc' _ _ _ (S.blk s H scope cl a fp) (g.blk s H scope _ fp) takes0).2 ifs h6
  · exact (se _ _ _ elt (S.blk s H scope cl a fp) (g.blk s H scope _ fp) takes0 h5).1
  · rw [own_map]
    exact lc_of (all_in h4) σ H Q hh
theorem se_comp2 {e : IE} {t t2 : Tg} {own own2 : List Nat} {it it2 : II} {c : IEo} (se : SE T C n e) (si : SI T C n it) (si2 : SI T C n it2) (sc' : SEo T C n c) : SE T C n (.comp2 e t own it t2 own2 it2 c) := by
  intro X sc W ee S g tk h
  obtain ⟨elt, tg, iter, tg2, iter2, ifs, scope, p, rfl, h1, h2, h3, h4, h5, h6, h7, h8, h9, h10⟩ := inv_comp2 h
  refine .val (pe_lc2 g.calm g.nd ((si X sc W tg iter S g tk).1 h1) (blk_of S h2) (vs1 := own2) (by rw [own_map]; exact all_in h5) (g := gT X.K t) (tt := tYes) (wi1 := tIv C X.K (fun _ _ _ _ => False) (evi (callF T.p.D T.p.G n) T.p.G it2)) (g1 := gT X.K t2) (tt1 := tCv C X.K (fun _ _ _ _ => False) (evc (callF T.p.D T.p.G n) T.p.G c)) (te := tEv C X.K (fun _ _ _ _ => False) (ev (callF T.p.D T.p.G n) T.p.G e))
    (fun s H a cl fp => ?_) (fun s H a cl fp => ?_) (fun s H a cl fp => ?_) (fun s H a cl fp => ?_) (fun s H a cl fp => ?_) (fun s H a cl fp => ?_) (fold_of (trI_plain h1)) (fun env => fold_of (trI_plain h6))) fun σ H Q hh => ?_
  · exact snd_T (S.blk s H scope cl a fp) g.calm g.nd t tg h3
  · exact pts_nil
  · exact (si2 _ _ _ tg2 iter2 (S.blk s H scope cl a fp) (g.blk s H scope _ fp) takes0).1 h6
  · exact snd_T (S.blk s H scope cl a fp) g.calm g.nd t2 tg2 h7
  · exact (sc' _ _ _ (S.blk s H scope cl a fp) (g.blk s H scope _ fp) takes0).2 ifs h10
  · exact (se _ _ _ elt (S.blk s H scope cl a fp) (g.blk s H scope _ fp) takes0 h9).1
  · rw [own_map]
    exact lc2_of (all_in h4) (all_in h8) σ H Q hh
theorem se_blt {f : Blt} {es : IEs} (ses : SEs T C n es) (sa : ∀ a, es = .cons a .nil → SE T C n a) : SE T C n (.blt f es) := by
  intro X sc W ee S g tk h
  rcases inv_blt h with ⟨e, r, q, p, hb, rfl, h1, h2, h3, h4⟩ | ⟨ty, a, ea, q, q2, p, hb, rfl, rfl, h1, h2, h3, h4⟩
  · exact snd_blt g.calm hb h2 (S.gl _ h1) (g.no _ (blt_mem f)) ((ses X sc W _ S g tk h3).1 h4) h4
  · have := snd_is (pos := p) (p := q) (p2 := q2) hb g.no (S.gl _ h1) (S.gl _ h2) (sa a rfl X sc W ea S g tk h3) h4
    have e : (fun ρ => (ev (callF T.p.D T.p.G n) T.p.G a ρ).bind fun x => bltP f [x]) = ev (callF T.p.D T.p.G n) T.p.G (.blt f (.cons a .nil)) := by
      funext ρ
      show _ = (evs (callF T.p.D T.p.G n) T.p.G (.cons a .nil) ρ).bind fun xs => bltP f xs
      show _ = ((ev (callF T.p.D T.p.G n) T.p.G a ρ).bind fun x => (Rs.ok []).bind fun xs => .ok (x :: xs)).bind fun xs => bltP f xs
      cases ev (callF T.p.D T.p.G n) T.p.G a ρ <;> rfl
    rw [← e]
    exact this
mutual
theorem sndE : ∀ e : IE, SE T C n e
  | .v i => fun X sc W ee S g tk h => by
    obtain ⟨x, p, rfl, h⟩ := inv_v h
    obtain ⟨h1, h2, h3⟩ := slot_of S h
    exact snd_v h1 h2 h3
  | .c p => fun X sc W ee S g tk h => by
    rcases inv_c h with ⟨k, j, q, rfl, h⟩ | ⟨q, rfl, rfl⟩
    · exact snd_c h
    · exact snd_d
  | .g k => fun X sc W ee S g tk h => by
    obtain ⟨x, p, rfl, h1, h2, h3, h4⟩ := inv_g h
    have q := g.gs k h4
    rw [h3] at q
    exact snd_g (S.gl _ h1) h2 q
  | .bin o a b => fun X sc W ee S g tk h => by
    obtain ⟨ea, eb, p, rfl, h1, h2⟩ := inv_bin h
    exact snd_bin o (sndE a X sc W ea S g tk h1) (sndE b X sc W eb S g tk h2)
  | .neg a => fun X sc W ee S g tk h => by
    obtain ⟨ea, p, rfl, h1⟩ := inv_neg h
    exact snd_neg (sndE a X sc W ea S g tk h1)
  | .not a => fun X sc W ee S g tk h => by
    obtain ⟨ea, p, rfl, h1⟩ := inv_not h
    exact snd_not (sndE a X sc W ea S g tk h1)
  | .cmp o a b => fun X sc W ee S g tk h => by
    obtain ⟨ea, eb, p, rfl, h1, h2, h3⟩ := inv_cmp h
    exact snd_cmp g.hu o (sndE a X sc W ea S g tk h1) (sndE b X sc W eb S g tk h2) h3
  | .chain o o' a b c => fun X sc W ee S g tk h => by
    obtain ⟨ea, eb, ec, p, rfl, h1, h2, h3, h4⟩ := inv_chain h
    exact snd_chain g.hu o o' (sndE a X sc W ea S g tk h1) (sndE b X sc W eb S g tk h2) (sndE c X sc W ec S g tk h3) h4
  | .band es => fun X sc W ee S g tk h => by
    obtain ⟨vs, p, rfl, h⟩ := inv_band h
    by_cases he : es = .nil
    · subst he
      exact ⟨⟨fun pins s σ H Q I ⟨Z, ρ, O, er, hh⟩ => hh.elim⟩, ⟨fun pins s σ H Q I ⟨Z, ρ, O, er, hh⟩ => hh.elim⟩⟩
    · have q := (sndEs es X sc W vs S g tk h).2.1 p he
      exact ⟨q.1, q.2.pt⟩
  | .bor es => fun X sc W ee S g tk h => by
    obtain ⟨vs, p, rfl, h⟩ := inv_bor h
    by_cases he : es = .nil
    · subst he
      exact ⟨⟨fun pins s σ H Q I ⟨Z, ρ, O, er, hh⟩ => hh.elim⟩, ⟨fun pins s σ H Q I ⟨Z, ρ, O, er, hh⟩ => hh.elim⟩⟩
    · have q := (sndEs es X sc W vs S g tk h).2.2 p he
      exact ⟨q.1, q.2.pt⟩
  | .ite c a b => fun X sc W ee S g tk h => by
    obtain ⟨ec, ea, eb, p, rfl, h1, h2, h3⟩ := inv_ite h
    exact snd_ite (sndE c X sc W ec S g tk h1) (sndE a X sc W ea S g tk h2) (sndE b X sc W eb S g tk h3)
  | .tup es => fun X sc W ee S g tk h => by
    obtain ⟨vs, k, p, rfl, h1, h2, h3⟩ := inv_tup h
    exact snd_tup ((sndEs es X sc W vs S g tk h2).1 h3) fun ρ xs e => by rw [evs_len h2 e]; exact h1
  | .lst es => fun X sc W ee S g tk h => by
    obtain ⟨vs, p, rfl, h1, h2, h3⟩ := inv_lst h
    exact snd_lst ((sndEs es X sc W vs S g tk h2).1 h3) fun ρ xs e => by rw [evs_len h2 e]; exact h1
  | .sub a i => fun X sc W ee S g tk h => by
    obtain ⟨ea, ei, p, rfl, h1, h2, h3⟩ := inv_sub h
    exact snd_sub g.hu (sndE a X sc W ea S g tk h1) (sndE i X sc W ei S g tk h2) h3
  | .subv i a => fun X sc W ee S g tk h => by
    obtain ⟨x, q, ei, p, rfl, h, h2, h3⟩ := inv_subv h
    obtain ⟨k1, k2, k3⟩ := slot_of S h
    exact snd_subv g.hu k1 k2 k3 (sndE a X sc W ei S g tk h2) h3
  | .lenv i => fun X sc W ee S g tk h => by
    obtain ⟨x, q, q2, p, rfl, h1, h⟩ := inv_lenv h
    obtain ⟨k1, k2, k3⟩ := slot_of S h
    exact snd_lenv g.calm (S.gl _ h1) (g.no1 "len") k1 k2 k3
  | .inv neg a i => fun X sc W ee S g tk h => by
    obtain ⟨ea, x, q, p, rfl, h1, h⟩ := inv_inv h
    obtain ⟨k1, k2, k3⟩ := slot_of S h
    exact snd_inv g.hu neg (sndE a X sc W ea S g tk h1) k1 k2 k3
  | .lrng it => fun X sc W ee S g tk h => by
    obtain ⟨r, q, p, rfl, h1, h2⟩ := inv_lrng h
    exact (sndI it X sc W r r S g tk).2 q p h1 h2
  | .slc a lo hi => fun X sc W ee S g tk h => by
    obtain ⟨ea, l, u, q, p, rfl, h1, h2, h3⟩ := inv_slc h
    exact snd_slc (sndE a X sc W ea S g tk h1) ((sndEo lo X sc W S g tk).1 l h2) ((sndEo hi X sc W S g tk).1 u h3)
  | .call f es => fun X sc W ee S g tk h => by
    obtain ⟨e, r, q, p, rfl, h1, h2, h5, h3, h4⟩ := inv_call h
    obtain ⟨d, hD⟩ := Option.isSome_iff_exists.mp h5
    exact snd_call (g.fns f d hD) g.room tk (S.gl _ h1) h2 rfl ((sndEs es X sc W _ S g tk h3).1 h4) h4
  | .blt f .nil => se_blt (sndEs .nil) fun a h => by cases h
  | .blt f (.cons a r) => se_blt (sndEs (.cons a r)) fun b h => by injection h with h1 h2; exact h1 ▸ sndE a
  | .comp e t own it c => se_comp (sndE e) (sndI it) (sndEo c)
  | .comp2 e t own it t2 own2 it2 c => se_comp2 (sndE e) (sndI it) (sndI it2) (sndEo c)
theorem sndEs : ∀ es : IEs, SEs T C n es
  | .nil => fun X sc W vs S g tk h => by
    rcases vs with _ | ⟨v, vs⟩
    · exact ⟨fun _ => snd_nil, fun _ z => absurd rfl z, fun _ z => absurd rfl z⟩
    · cases h
  | .cons e .nil => fun X sc W vs S g tk h => by
    rcases vs with _ | ⟨v, vs⟩
    · cases h
    · replace h := and_t h; obtain ⟨h1, h⟩ := h
      have se := sndE e X sc W v S g tk h1
      rcases vs with _ | ⟨v2, vs⟩
      · exact ⟨fun hp => snd_cons (plains_of hp).1 se.1 snd_nil, fun pos _ => snd_one (.inl rfl) se, fun pos _ => snd_one (.inr rfl) se⟩
      · cases h
  | .cons e (.cons e2 r) => fun X sc W vs S g tk h => by
    rcases vs with _ | ⟨v, vs⟩
    · cases h
    · replace h := and_t h; obtain ⟨h1, h⟩ := h
      have se := sndE e X sc W v S g tk h1
      have ss := sndEs (.cons e2 r) X sc W vs S g tk h
      rcases vs with _ | ⟨v2, vs⟩
      · cases h
      · exact ⟨fun hp => snd_cons (plains_of hp).1 se.1 (ss.1 (plains_of hp).2), fun pos _ => snd_and se (ss.2.1 pos (fun z => by cases z)), fun pos _ => snd_or se (ss.2.2 pos (fun z => by cases z))⟩
theorem sndEo : ∀ e : IEo, SEo T C n e
  | .no => fun X sc W S g tk => by
    refine ⟨fun o h => ?_, fun ifs h => ?_⟩
    · cases o with
      | none => exact snd_no
      | some _ => cases h
    · rcases ifs with _ | _
      · exact pts_imp pts_nil fun σ H Q ⟨Z, ρ, O, er, hh⟩ => hh H (sameR H)
      · cases h
  | .so e => fun X sc W S g tk => by
    refine ⟨fun o h => ?_, fun ifs h => ?_⟩
    · cases o with
      | none => cases h
      | some ee => exact snd_so (sndE e X sc W ee S g tk h)
    · rcases ifs with _ | ⟨c, _ | _⟩
      · cases h
      · exact pts_one (pt_imp (sndE e X sc W c S g tk h).2 fun σ H Q h => h)
      · cases h
theorem sndI : ∀ it : II, SI T C n it
  | .seq a => fun X sc W tg e S g tk => ⟨fun h => snd_seq (sndE a X sc W e S g tk (and_t h).1), fun q p h1 h => by cases h⟩
  | .rng1 a => fun X sc W tg e S g tk => by
    have key : ∀ {Pr : Prop}, (∀ ea q p, e = .Call (.Name "range" q) [ea] [] p → glB sc "range" = true → trE T sc a ea = true → plainB ea = true → Pr) → trI T sc tg (.rng1 a) e = true ∨ trR T sc (.rng1 a) e = true → Pr := by
      intro Pr k h
      cases e <;> first | (rcases h with h | h <;> cases h; done) | skip
      rename_i f as ks pos
      cases f <;> first | (rcases h with h | h <;> cases h; done) | skip
      rcases as with _ | ⟨a1, _ | ⟨a2, as⟩⟩ <;> rcases ks with _ | _ <;> first | (rcases h with h | h <;> cases h; done) | skip
      rcases h with h | h <;>
      · replace h := and_t h; obtain ⟨h1, h⟩ := h
        replace h := and_t h; obtain ⟨h2, h⟩ := h
        replace h := and_t h; obtain ⟨h3, h⟩ := h
        have e := of_decide_eq_true h2
        subst e
        exact k _ _ _ rfl h1 h3 h
    refine ⟨fun h => key (fun ea q p e1 h1 h2 h3 => ?_) (.inl h), fun q0 p0 hl h => key (fun ea q p e1 h1 h2 h3 => ?_) (.inr h)⟩
    · subst e1
      exact snd_rng1 (S.gl _ h1) (g.no1 "range") (sndE a X sc W ea S g tk h2) h3
    · subst e1
      exact snd_lrng1 g.calm (S.gl _ hl) (g.no1 "list") (S.gl _ h1) (g.no1 "range") (sndE a X sc W ea S g tk h2) h3
  | .rng2 a b => fun X sc W tg e S g tk => by
    have key : ∀ {Pr : Prop}, (∀ ea eb q p, e = .Call (.Name "range" q) [ea, eb] [] p → glB sc "range" = true → trE T sc a ea = true → trE T sc b eb = true → plainB ea = true → plainB eb = true → Pr) → trI T sc tg (.rng2 a b) e = true ∨ trR T sc (.rng2 a b) e = true → Pr := by
      intro Pr k h
      cases e <;> first | (rcases h with h | h <;> cases h; done) | skip
      rename_i f as ks pos
      cases f <;> first | (rcases h with h | h <;> cases h; done) | skip
      rcases as with _ | ⟨a1, _ | ⟨a2, _ | ⟨a3, as⟩⟩⟩ <;> rcases ks with _ | _ <;> first | (rcases h with h | h <;> cases h; done) | skip
      rcases h with h | h <;>
      · replace h := and_t h; obtain ⟨h1, h⟩ := h
        replace h := and_t h; obtain ⟨h2, h⟩ := h
        replace h := and_t h; obtain ⟨h3, h⟩ := h
        replace h := and_t h; obtain ⟨h4, h⟩ := h
        replace h := and_t h; obtain ⟨h5, h⟩ := h
        have e := of_decide_eq_true h2
        subst e
        exact k _ _ _ _ rfl h1 h3 h4 h5 h
    refine ⟨fun h => key (fun ea eb q p e1 h1 h2 h3 h4 h5 => ?_) (.inl h), fun q0 p0 hl h => key (fun ea eb q p e1 h1 h2 h3 h4 h5 => ?_) (.inr h)⟩
    · subst e1
      exact snd_rng2 (S.gl _ h1) (g.no1 "range") (sndE a X sc W ea S g tk h2) (sndE b X sc W eb S g tk h3) h4 h5
    · subst e1
      exact snd_lrng2 g.calm (S.gl _ hl) (g.no1 "list") (S.gl _ h1) (g.no1 "range") (sndE a X sc W ea S g tk h2) (sndE b X sc W eb S g tk h3) h4 h5
  | .rng3 a b c => fun X sc W tg e S g tk => ⟨fun h => by
      cases e <;> first | (cases h; done) | skip
      rename_i f as ks pos
      cases f <;> first | (cases h; done) | skip
      rcases as with _ | ⟨a1, _ | ⟨a2, _ | ⟨a3, _ | ⟨a4, as⟩⟩⟩⟩ <;> rcases ks with _ | _ <;> first | (cases h; done) | skip
      replace h := and_t h; obtain ⟨h1, h⟩ := h
      replace h := and_t h; obtain ⟨h2, h⟩ := h
      replace h := and_t h; obtain ⟨h3, h⟩ := h
      replace h := and_t h; obtain ⟨h4, h⟩ := h
      replace h := and_t h; obtain ⟨h5, h⟩ := h
      replace h := and_t h; obtain ⟨h6, h⟩ := h
      replace h := and_t h; obtain ⟨h7, h⟩ := h
      have e := of_decide_eq_true h2
      subst e
      exact snd_rng3 (S.gl _ h1) (g.no1 "range") (sndE a X sc W _ S g tk h3) (sndE b X sc W _ S g tk h4) (sndE c X sc W _ S g tk h5) h6 h7 h, fun q p h1 h => by cases h⟩
  | .zip a b => fun X sc W tg e S g tk => ⟨fun h => by
      cases e <;> first | (cases h; done) | skip
      rename_i f as ks pos
      cases f <;> first | (cases h; done) | skip
      rcases as with _ | ⟨a1, _ | ⟨a2, _ | ⟨a3, as⟩⟩⟩ <;> rcases ks with _ | _ <;> first | (cases h; done) | skip
      replace h := and_t h; obtain ⟨h1, h⟩ := h
      replace h := and_t h; obtain ⟨h2, h⟩ := h
      replace h := and_t h; obtain ⟨h3, h⟩ := h
      replace h := and_t h; obtain ⟨h4, h⟩ := h
      replace h := and_t h; obtain ⟨h5, h⟩ := h
      replace h := and_t h; obtain ⟨h6, h⟩ := h
      have e := of_decide_eq_true h2
      subst e
      exact snd_zip (S.gl _ h1) (g.no1 "zip") h3 (sndE a X sc W _ S g tk h4) (sndE b X sc W _ S g tk h5) h6 h, fun q p h1 h => by cases h⟩
  | .enum a => fun X sc W tg e S g tk => ⟨fun h => by
      cases e <;> first | (cases h; done) | skip
      rename_i f as ks pos
      cases f <;> first | (cases h; done) | skip
      rcases as with _ | ⟨a1, _ | ⟨a2, as⟩⟩ <;> rcases ks with _ | _ <;> first | (cases h; done) | skip
      replace h := and_t h; obtain ⟨h1, h⟩ := h
      replace h := and_t h; obtain ⟨h2, h⟩ := h
      replace h := and_t h; obtain ⟨h3, h⟩ := h
      replace h := and_t h; obtain ⟨h4, h⟩ := h
      have e := of_decide_eq_true h2
      subst e
      exact snd_enum (S.gl _ h1) (g.no1 "enumerate") h3 (sndE a X sc W _ S g tk h4) h, fun q p h1 h => by cases h⟩
end
end
end PL
end

section
set_option Elab.async false
set_option linter.all false
set_option maxRecDepth 100000
set_option maxHeartbeats 4000000
/-! PLStm: statements. -/
namespace PL
open PySem PySem.Spec
open PyProof.Rows
open L2 hiding start

/-! ### the heap through a body -/
def MvO (O : List Addr) (H : Hp) (O' : List Addr) (H' : Hp) : Prop := (∀ a o, a ∉ O → H a = some o → H' a = some o) ∧ ∀ a ∈ O', a ∈ O ∨ H a = none
section
variable {K : Frg} {Z : Addr → Prop} {O O' O'' : List Addr} {H H' H'' : Hp}
theorem MvO.rfl' : MvO O H O H := ⟨fun _ _ _ h => h, fun _ h => .inl h⟩
theorem MvO.same (s : Same H H') : MvO O H O H' := ⟨fun a o _ h => s a o h, fun _ h => .inl h⟩
theorem MvO.trans (m : MvO O H O' H') (n : MvO O' H' O'' H'') : MvO O H O'' H'' := by
  refine ⟨fun a o na h => ?_, fun a ha => ?_⟩
  · refine n.1 a o (fun z => ?_) (m.1 a o na h)
    rcases m.2 a z with q | q
    · exact na q
    · rw [h] at q; cases q
  · rcases n.2 a ha with z | z
    · exact m.2 a z
    · by_cases hO : a ∈ O
      · exact .inl hO
      · refine .inr ?_
        cases e : H a with
        | none => rfl
        | some o => rw [m.1 a o hO e] at z; cases z
theorem MvO.mv (m : MvO O H O' H') : Mv (ZO Z O) H (ZO Z O') H' := ⟨fun a o na h => m.1 a o (fun z => na (.inr z)) h, fun a h => by
  rcases h with h | h
  · exact .inl (.inl h)
  · rcases m.2 a h with q | q
    · exact .inl (.inr q)
    · exact .inr q⟩
end

/-! ### what is wanted of a statement -/
section
variable (C : Cls) (K : Frg) (Z : Addr → Prop) (W : WX)
def tO (r : Rs Out) (O : List Addr) (D : Ends) (H : Hp) : Prop := match r with
  | .ok (.nx ρ') => ∀ σ' H' O', EnvRep K Z O' H' σ' ρ' → MvO O H O' H' → D.nx σ' H'
  | .ok (.rt p) => ∀ v H' O', MvO O H O' H' → Rep K (ZO Z O') H' v p → D.rt v H'
  | .exc x => ∀ cls d σ' H' O', MvO O H O' H' → XRep C K (ZO Z O') H' x cls d → W cls d σ' H'
  | .bad => False
end
def tSv (C : Cls) (K : Frg) (W : WX) (F : Ev → Rs Out) : TS := fun D σ H => ∃ Z ρ O, EnvRep K Z O H σ ρ ∧ tO C K Z W (F ρ) O D H
section
variable {C : Cls} {K : Frg} {Z : Addr → Prop} {W : WX} {O O1 : List Addr} {σ : L2.St} {H H1 : Hp} {D D' : Ends}
theorem tO.mv {r : Rs Out} (m : MvO O H O1 H1) (h : tO C K Z W r O D H) : tO C K Z W r O1 D H1 := by
  cases r with
  | ok o =>
    cases o with
    | nx ρ => exact fun σ' H' O' er m' => h σ' H' O' er (m.trans m')
    | rt p => exact fun v H' O' m' r => h v H' O' (m.trans m') r
  | exc x => exact fun cls d σ' H' O' m' r => h cls d σ' H' O' (m.trans m') r
  | bad => exact h
theorem tO.same {r : Rs Out} (s : Same H H1) (h : tO C K Z W r O D H) : tO C K Z W r O D H1 := h.mv (.same s)
theorem tX_of {x : Exn} (h : tO C K Z W (.exc x) O D H) : tX C K Z W O σ H x := fun cls d H' s r => h cls d σ H' O (.same s) r
theorem tE_bindO {r : Rs P} {f : P → Rs Out} {R : VK} (h : tO C K Z W (r.bind f) O D H) (k : ∀ x v H1, r = .ok x → Same H H1 → Rep K (ZO Z O) H1 v x → tO C K Z W (f x) O D H1 → R v H1) : tE C K Z W r O σ H R := by
  cases r with
  | ok p => exact fun v H' s q => k p v H' rfl s q (tO.same s h)
  | exc x => exact tX_of h
  | bad => exact h
theorem tL_bindO {r : Rs (List P)} {f : List P → Rs Out} {R : List V → Hp → Prop} (h : tO C K Z W (r.bind f) O D H) (k : ∀ x v H1, r = .ok x → Same H H1 → Reps K (ZO Z O) H1 v x → tO C K Z W (f x) O D H1 → R v H1) : tL C K Z W r O σ H R := by
  cases r with
  | ok p => exact fun v H' s q => k p v H' rfl s q (tO.same s h)
  | exc x => exact tX_of h
  | bad => exact h
theorem tN_bindO {r : Rs (List P)} {f : List P → Rs Out} {R : VK} (h : tO C K Z W (r.bind f) O D H) (k : ∀ ys a vs H1, r = .ok ys → H a = none → Same H H1 → H1 a = some (.lst vs) → Reps K (ZO (ZD Z a) O) H1 vs ys → tO C K Z W (f ys) O D H → R (.ref a) H1) : tN C K Z W r O σ H R := by
  cases r with
  | ok p => exact fun a vs H' hD s hv q => k p a vs H' rfl hD s hv q h
  | exc x => exact tX_of h
  | bad => exact h
theorem tG_bindO {α : Type} {r : Rs α} {f : α → Rs Out} {R : α → Hp → Prop} (h : tO C K Z W (r.bind f) O D H) (k : ∀ x H1, r = .ok x → Same H H1 → tO C K Z W (f x) O D H1 → R x H1) : tG C K Z W r O σ H R := by
  cases r with
  | ok p => exact fun H' s => k p H' rfl s (tO.same s h)
  | exc x => exact tX_of h
  | bad => exact h
theorem tI_bindO {r : Rs (List P)} {f : List P → Rs Out} {R : It → Hp → Prop} (h : tO C K Z W (r.bind f) O D H) (k : ∀ xs J H1, r = .ok xs → Same H H1 → IterRep K (ZO Z O) H1 J xs → tO C K Z W (f xs) O D H1 → R J H1) : tI C K Z W r O σ H R := by
  cases r with
  | ok p => exact fun J H' s q => k p J H' rfl s q (tO.same s h)
  | exc x => exact tX_of h
  | bad => exact h
theorem tO_ok {r : Rs Out} (nx : NX r) (h : tO C K Z W r O D H) : ∃ o, r = .ok o := by
  cases r with
  | ok o => exact ⟨o, rfl⟩
  | exc x => exact absurd rfl (nx x)
  | bad => exact h.elim
theorem tO_seq {r : Rs Out} {f : Ev → Rs Out} (h : tO C K Z W (seqO r f) O D H) : tO C K Z W r O { D with nx := fun σ' H' => ∃ Z ρ O, EnvRep K Z O H' σ' ρ ∧ tO C K Z W (f ρ) O D H' } H := by
  cases r with
  | ok o =>
    cases o with
    | nx ρ => exact fun σ' H' O' er m => ⟨Z, ρ, O', er, h.mv m⟩
    | rt p => exact h
  | exc x => exact h
  | bad => exact h
end

/-! ### slots: made, changed, frozen -/
section
variable {K : Frg} {Z : Addr → Prop} {O : List Addr} {H H' : Hp} {σ : L2.St} {ρ : Ev} {i : Nat} {a : Addr}
theorem zo_cons {D : Addr} : ∀ b, ZO Z (D :: O) b → ZO (ZD Z D) O b ∨ H b = none := fun b hb => by
  rcases hb with hb | hb
  · exact .inl (.inl (.inl hb))
  · rcases List.mem_cons.mp hb with rfl | hb
    · exact .inl (.inl (.inr rfl))
    · exact .inl (.inr hb)
/-- a new one is held -/
theorem EnvRep.hold {v : Option V} {s : Sl} (er : EnvRep K Z O H σ ρ) (hi : i < ρ.length) (ha : H a = none) (sm : Same H H') (ha' : (H' a).isSome = true) (hs : RepS K Z (a :: O) H' v s) (hv : isOwn s = true → v = some (.ref a)) : EnvRep K Z (a :: O) H' (σ.set i v) (ρ.set i s) := by
  have zz : ∀ b, ZO Z (a :: O) b → ZO Z O b ∨ H b = none := fun b hb => by
    rcases hb with hb | hb
    · exact .inl (.inl hb)
    · rcases List.mem_cons.mp hb with rfl | hb
      · exact .inr ha
      · exact .inl (.inr hb)
  have lift : ∀ {o : Option V} {t : Sl}, RepS K Z O H o t → RepS K Z (a :: O) H' o t := fun r => by
    cases r with
    | un => exact .un
    | fz r => exact .fz (r.keep (same_kp sm) zz)
    | ow n1 n2 n3 => exact .ow (List.mem_cons_of_mem _ n1) (sm _ _ n2) (n3.keep (same_kp sm) zz)
    | od n1 n2 n3 => exact .od (List.mem_cons_of_mem _ n1) (sm _ _ n2) (n3.keep (same_kp sm) zz)
  have na : ∀ {j : Nat} {t : Sl}, ρ[j]? = some t → isOwn t = true → σ[j]? ≠ some (some (.ref a)) := fun {j t} h ho e => by
    obtain ⟨o, h1, h2⟩ := er.sl j t h
    rw [e] at h1
    cases h1
    have hm : a ∈ O := by
      cases h2 with
      | un => cases ho
      | fz _ => cases ho
      | ow n1 _ _ => exact n1
      | od n1 _ _ => exact n1
    have := (er.own a hm).1
    rw [ha] at this
    cases this
  refine ⟨by rw [List.length_set, List.length_set, er.len], fun j t h => ?_, fun j k t u b h1 h2 o1 o2 h3 h4 => ?_, fun b hb => ?_, fun b hb => some_same sm (er.zz b hb)⟩
  · by_cases hj : i = j
    · subst hj
      rw [List.getElem?_set_self hi] at h
      cases h
      exact ⟨v, List.getElem?_set_self (by rw [er.len]; exact hi), hs⟩
    · rw [List.getElem?_set_ne hj] at h ⊢
      obtain ⟨o, e1, e2⟩ := er.sl j t h
      exact ⟨o, e1, lift e2⟩
  · by_cases hj : i = j
    · by_cases hk : i = k
      · exact hj.symm.trans hk
      · subst hj
        rw [List.getElem?_set_self hi] at h1
        cases h1
        rw [List.getElem?_set_self (by rw [er.len]; exact hi), hv o1] at h3
        cases h3
        rw [List.getElem?_set_ne hk] at h2 h4
        exact absurd h4 (na h2 o2)
    · by_cases hk : i = k
      · subst hk
        rw [List.getElem?_set_self hi] at h2
        cases h2
        rw [List.getElem?_set_self (by rw [er.len]; exact hi), hv o2] at h4
        cases h4
        rw [List.getElem?_set_ne hj] at h1 h3
        exact absurd h3 (na h1 o1)
      · rw [List.getElem?_set_ne hj] at h1 h3
        rw [List.getElem?_set_ne hk] at h2 h4
        exact er.one j k t u b h1 h2 o1 o2 h3 h4
  · rcases List.mem_cons.mp hb with rfl | hb
    · refine ⟨ha', fun z => ?_⟩
      have := er.zz _ z
      rw [ha] at this
      cases this
    · exact ⟨some_same sm (er.own b hb).1, (er.own b hb).2⟩
theorem MvO.hold (ha : H a = none) (sm : Same H H') : MvO O H (a :: O) H' := ⟨fun b o _ h => sm b o h, fun b hb => by
  rcases List.mem_cons.mp hb with rfl | hb
  · exact .inr ha
  · exact .inl hb⟩
/-- an own one is changed -/
theorem EnvRep.chg {o : HO} {s s0 : Sl} (er : EnvRep K Z O H σ ρ) (h0 : ρ[i]? = some s0) (ho : isOwn s0 = true) (hv : σ[i]? = some (some (.ref a))) (hs : RepS K Z O (upd H a o) (some (.ref a)) s) (hs' : isOwn s = true) :
    EnvRep K Z O (upd H a o) σ (ρ.set i s) ∧ MvO O H O (upd H a o) := by
  have hi : i < ρ.length := (List.getElem?_eq_some_iff.mp h0).1
  have ha : a ∈ O := by
    obtain ⟨u, e1, e2⟩ := er.sl i s0 h0
    rw [hv] at e1
    cases e1
    cases e2 with
    | un => cases ho
    | fz _ => cases ho
    | ow n1 _ _ => exact n1
    | od n1 _ _ => exact n1
  have kp : Keep (ZO Z O) H (upd H a o) := fun b u nb e => upd_other b u (fun z => nb (.inr (z ▸ ha))) e
  have so : ∀ {b : Addr}, (H b).isSome = true → (upd H a o b).isSome = true := fun {b} h => by
    by_cases e : b = a
    · subst e; rw [upd_same]; rfl
    · obtain ⟨u, q⟩ := Option.isSome_iff_exists.mp h
      rw [upd_other b u e q]; rfl
  refine ⟨⟨by rw [List.length_set, er.len], fun j t h => ?_, fun j k t u b h1 h2 o1 o2 h3 h4 => ?_, fun b hb => ⟨so (er.own b hb).1, (er.own b hb).2⟩, fun b hb => so (er.zz b hb)⟩, fun b u nb e => upd_other b u (fun z => nb (z ▸ ha)) e, fun _ h => .inl h⟩
  · by_cases hj : i = j
    · subst hj
      rw [List.getElem?_set_self hi] at h
      cases h
      exact ⟨_, hv, hs⟩
    · rw [List.getElem?_set_ne hj] at h
      obtain ⟨u, e1, e2⟩ := er.sl j t h
      refine ⟨u, e1, ?_⟩
      cases e2 with
      | un => exact .un
      | fz r => exact .fz (r.keep kp fun _ h => .inl h)
      | ow n1 n2 n3 => exact .ow n1 (upd_other _ _ (fun z => hj (er.one i j s0 _ a h0 h ho rfl hv (z ▸ e1))) n2) (n3.keep kp fun _ h => .inl h)
      | od n1 n2 n3 => exact .od n1 (upd_other _ _ (fun z => hj (er.one i j s0 _ a h0 h ho rfl hv (z ▸ e1))) n2) (n3.keep kp fun _ h => .inl h)
  · have back : ∀ {j : Nat} {t : Sl}, (ρ.set i s)[j]? = some t → isOwn t = true → ∃ t', ρ[j]? = some t' ∧ isOwn t' = true := fun {j t} h hh => by
      by_cases hj : i = j
      · subst hj; exact ⟨s0, h0, ho⟩
      · rw [List.getElem?_set_ne hj] at h; exact ⟨t, h, hh⟩
    obtain ⟨t', q1, q2⟩ := back h1 o1
    obtain ⟨u', q3, q4⟩ := back h2 o2
    exact er.one j k t' u' b q1 q3 q2 q4 h3 h4
/-- an own one is frozen -/
theorem EnvRep.frz (er : EnvRep K Z O H σ ρ) (i : Nat) : ∃ O', EnvRep K Z O' H σ (frzS ρ i) ∧ MvO O H O' H := by
  unfold frzS
  cases h0 : ρ[i]? with
  | none => exact ⟨O, er, .rfl'⟩
  | some s0 =>
    have hi : i < ρ.length := (List.getElem?_eq_some_iff.mp h0).1
    have hself : ∀ {t : Sl}, t = s0 → ρ.set i t = ρ := fun {t} e => by
      subst e
      apply List.ext_getElem?
      intro j
      by_cases hj : i = j
      · subst hj; rw [List.getElem?_set_self hi, h0]
      · rw [List.getElem?_set_ne hj]
    by_cases ho : isOwn s0 = true
    · obtain ⟨o, e1, e2⟩ := er.sl i s0 h0
      obtain ⟨a, rfl, hm⟩ : ∃ a, o = some (.ref a) ∧ a ∈ O := by
        cases e2 with
        | un => cases ho
        | fz _ => cases ho
        | ow n1 _ _ => exact ⟨_, rfl, n1⟩
        | od n1 _ _ => exact ⟨_, rfl, n1⟩
      have zz : ∀ b, ZO Z (O.filter fun b => decide (b ≠ a)) b → ZO Z O b ∨ H b = none := fun b hb => by
        rcases hb with hb | hb
        · exact .inl (.inl hb)
        · exact .inl (.inr (List.mem_filter.mp hb).1)
      have na : ¬ ZO Z (O.filter fun b => decide (b ≠ a)) a := fun z => by
        rcases z with z | z
        · exact (er.own a hm).2 z
        · exact of_decide_eq_true (List.mem_filter.mp z).2 rfl
      have kp : Keep (ZO Z O) H H := fun _ _ _ h => h
      refine ⟨O.filter fun b => decide (b ≠ a), ⟨by rw [List.length_set, er.len], fun j t h => ?_, fun j k t u b h1 h2 o1 o2 h3 h4 => ?_, fun b hb => er.own b (List.mem_filter.mp hb).1, er.zz⟩, fun _ _ _ h => h, fun b hb => .inl (List.mem_filter.mp hb).1⟩
      · by_cases hj : i = j
        · subst hj
          rw [List.getElem?_set_self hi] at h
          cases h
          refine ⟨_, e1, ?_⟩
          cases e2 with
          | un => cases ho
          | fz _ => cases ho
          | ow n1 n2 n3 => exact .fz (.lst na n2 (n3.keep kp zz))
          | od n1 n2 n3 => exact .fz (.dic na n2 (n3.keep kp zz))
        · rw [List.getElem?_set_ne hj] at h
          obtain ⟨u, f1, f2⟩ := er.sl j t h
          refine ⟨u, f1, ?_⟩
          cases f2 with
          | un => exact .un
          | fz r => exact .fz (r.keep kp zz)
          | ow n1 n2 n3 => exact .ow (List.mem_filter.mpr ⟨n1, decide_eq_true fun z => hj (er.one i j s0 _ a h0 h ho rfl e1 (z ▸ f1))⟩) n2 (n3.keep kp zz)
          | od n1 n2 n3 => exact .od (List.mem_filter.mpr ⟨n1, decide_eq_true fun z => hj (er.one i j s0 _ a h0 h ho rfl e1 (z ▸ f1))⟩) n2 (n3.keep kp zz)
      · have nf : ∀ {j : Nat} {t : Sl}, (ρ.set i (freezeS s0))[j]? = some t → isOwn t = true → ρ[j]? = some t := fun {j t} h hh => by
          by_cases hj : i = j
          · subst hj
            rw [List.getElem?_set_self hi] at h
            cases h
            cases s0 <;> cases hh <;> cases ho
          · rwa [List.getElem?_set_ne hj] at h
        exact er.one j k t u b (nf h1 o1) (nf h2 o2) o1 o2 h3 h4
    · refine ⟨O, ?_, .rfl'⟩
      have e : freezeS s0 = s0 := by
        cases s0 with
        | un => rfl
        | fz _ => rfl
        | ow _ => exact absurd rfl ho
        | od _ => exact absurd rfl ho
      show EnvRep K Z O H σ (ρ.set i (freezeS s0))
      rw [hself e]
      exact er
end
end PL
end

section
set_option Elab.async false
set_option linter.all false
set_option maxRecDepth 100000
set_option maxHeartbeats 4000000
/-! PLExn: an own exception class over ValueError whose __init__ says super().__init__('text') and keeps its arguments. -/
namespace PL
open PySem PySem.Spec PySem.W PySem.Calls
open PyProof.Rows
open PySem.HandSPX (excO refsVE)

/-! ### the text of such an __init__ -/
def asgB : List Str → List Stmt → Bool
  | [], [] => true
  | f :: fs, .Assign [.Attribute (.Name s _) g _] (.Name y _) _ :: r => decide (s = "self") && (decide (g = f) && (decide (y = f) && asgB fs r))
  | _, _ => false
def supB : Stmt → Bool
  | .Expr (.Call (.Attribute (.Call (.Name s _) [] [] _) a ap) [.Constant (.str _) _ _] [] cp) _ => decide (s = "super") && (decide (a = "__init__") && (ap.endLine == cp.line))
  | _ => false
def bodyB (fs : List Str) : List Stmt → Bool
  | st :: r => supB st && asgB fs r
  | _ => false
def initB (fs : List Str) (params : Arguments) (body : List Stmt) (scope : Scope) : Bool :=
  bodyB fs body && (decide (scope.kind = .function) && (decide (scope.isCoroutine = false) && (decide (scope.isGenerator = false) && ((("self" : Str) :: fs).all (fun x => decide (scope.names.lookup x = some .local) && nmOk x) &&
    (decide (scope.names.lookup ("super" : Str) = some .globalImplicit) && (decide (scope.names.lookup ("__class__" : Str) = some .free) && (scope.names.all (fun x => decide (x.2 ≠ .cell)) && decide ((params.posonlyargs ++ params.args).head?.map (·.arg) = some ("self" : Str)))))))))
/-- what the written part says of the class at C and of its __init__ at fI -/
structure XTxt (prog : Program) (K : Frg) (mg : Str → Option Value) (C fI : Addr) (name : Str) (fs : List Str) : Prop where
  gC : mg name = some (.ref C)
  cls : ∃ nm q N bs bm sn sub ab col dd k0 k1 k2 k3 k5, K.lookup C = some (excClassObj nm q C N bs bm true sn sub ab col dd k0 k1 k2 k3 k5 "ValueError.__new__") ∧ refsVE bm = true
  sa : findIn K (.ref C) "__setattr__" = some (some (.builtin "object.__setattr__"))
  ga : findIn K (.ref C) "__getattribute__" = some (some (.builtin "BaseException.__getattribute__"))
  gg : findIn K (.ref C) "__getattr__" = some none
  noN : ∀ f ∈ fs, findIn K (.ref C) f = some none
  iC : findIn K (.ref C) "__init__" = some (some (.ref fI))
  tI : typeIn K (.ref fI) = some (.type "function")
  kC : keepIn K (.ref C) = true
  exC : subIn K (.ref C) (.type "BaseException") = some true
  veC : subIn K (.ref C) (.type "ValueError") = some true
  tyC : typeIn K (.ref C) = some (.type "type")
  hdC : hasDictIn K C = true
  opq : nsIn K cStatics "thirdparty.any" = some none
  sup : mg "super" = none
  alo : ks_superIn K C C "__init__" = some (some (.builtin "ValueError.__init__"))
  slf : mroIn K C (.ref C) = some true
  top : (prog.main.scope.names.lookup ("super" : Str)).isSome = false
  nd : (("self" : Str) :: fs).Nodup
  ne : fs ≠ []
  few : fs.length ≤ 900
  fn : ∃ (oc : Value) (od : Option Addr) (osl : Array (Option Value)) (qual : Str) (params : Arguments) (body : List Stmt) (scope : Scope) (dV kV doc pm ct : Value) (an : Option Addr) (cda cc : Addr),
    K.lookup fI = some ⟨oc, od, .func (fnX "__init__" qual params body scope [("__class__", cc)] dV kV doc pm an (.ref cda) ct), osl⟩ ∧ codeIn K (.ref cda) qual = true ∧ initB fs params body scope = true ∧
    (∀ us : List Value, us.length = fs.length + 1 → bindArgs (fnX "__init__" qual params body scope [("__class__", cc)] dV kV doc pm an (.ref cda) ct) ⟨us, []⟩ = pure ((("self" : Str) :: fs).zip us)) ∧
    (∃ ccl cdd vs ccs file tf, K.lookup cda = some ⟨ccl, cdd, .fields vs, ccs⟩ ∧ vs[2]? = some (.str file tf) ∧ ((prog.main.file : Str) == file) = true) ∧
    (∃ cl cld csl, K.lookup cc = some ⟨cl, cld, .cell (some (.ref C)), csl⟩)
/-- a dict's words behind the stores -/
def cont : List (Str × Value) → (Str → Option Value) → Str → Option Value
  | [], m => m
  | (f, v) :: r, m => cont r fun y => if y = f then some v else m y
section
variable {prog : Program} {w : World} {A : Around} {E : Value → Shared → Prop} {R : Result → Shared → Prop} {hp : Heap} {g : Array GenState} {d : Drawn} {t : Nat} {os : OsState}
open Builtin Builtin.ObjectAttr in
/-- self.name = v where the exception has a dict already -/
theorem exc_old {K : Frg} {name : Str} {tk : Tok} {v : Value} {x C dx : Addr} {fv : Array Value} {cd : ClassData} {m0 : Str → Option Value} {nl : List Str}
    (X : K.In hp) (hx : hp.get? x = some { cls := .ref C, dict := some dx, data := .fields fv }) (hns : hp.Ns1 dx m0) (hw : Within m0 nl) (hz : nl.length ≤ 1000) (hcd : clsIn K C = some cd) (hm : refsVE cd.mro = true) (hh : cd.hasDict = true) (ha : findIn K (.ref C) name = some none)
    (hq : ∀ h' tk', (∀ b o, b ≠ dx → hp.get? b = some o → h'.get? b = some o) → h'.Ns1 dx (fun y => if y = name then some v else m0 y) → R (.ok (.ret .none)) ⟨h', g, d, tk', os⟩) :
    codeAny (model prog w) A (.call (.builtin "object.__setattr__") ⟨[.ref x, .str name tk, v], []⟩) R ⟨hp, g, d, t, os⟩ := by
  obtain ⟨oD, esD, epD, hoD, hdD, _⟩ := hns.count hw
  have J : InstAt hp x { cls := .ref C, dict := some dx, data := .fields fv } C (some oD) := ⟨hx, rfl, rfl, hoD⟩
  have W0 := PySem.F.store_object
  have nz := PySem.HandSPX.refsVE_ne hm
  have hob : cd.mro.contains (.type "object") = true := (PySem.HandSPX.refsVE_contains "object" _ hm).trans (by decide +kernel)
  have isO : Looks (model prog w) hp (isInstance (.ref x) (.type "object")) true := J.type.andThen (looks_mroIn X (by unfold mroIn; rw [hcd, Option.bind_some, if_neg (by rw [nz]; decide), hob]))
  have mr : Looks (model prog w) hp (mroOf (.ref C)) cd.mro := (looks_clsIn X hcd).andThen .now
  have tkr : Looks (model prog w) hp (storeTaker? none) none := .now
  have kcl : Looks (model prog w) hp (classData C) cd := looks_clsIn X hcd
  refine codeAny_call_builtin W0.slot.plain W0.entry (@check_slot (model prog w) _ _ ⟨hp, g, d, t, os⟩ "object.__setattr__" "object" "__setattr__" (.ref x) [.str name tk, v] [] _ W0.kind W0.split isO (W0.args (.ref x) (.str name tk) v) ?_)
  rw [osa_eq, refuse_eq]
  refine wpAny_bind (wpAny_bind (J.type.at (wpAny_bind (mr.at ?_))))
  rw [PySem.HandSPX.refsVE_pass _ _ hm]
  refine wpAny_pure (wpAny_bind (J.type.at (wpAny_bind ((looks_findIn X ha).at (wpAny_bind (tkr.at ?_))))))
  show wpAny _ _ (storeInOwnDict (.ref x) (.ref C) (.str name tk) name v false) _ _ _
  obtain ⟨nm, bs, mro, ns, qn, hd, sn, sb, ab, col, del⟩ := cd
  dsimp only at hh
  subst hh
  unfold storeInOwnDict ownDictForStores
  repeat (first | with_reducible refine PySem.ESX.store_in_old hns hw hz ?_ | with_reducible refine wpAny_loadPart_at hx ?_ | with_reducible refine kcl.at ?_ | wp_step)
  intro h' tk' hn' hs
  exact hq h' tk' (fun b o hb ho => (hs.2 b hb).trans ho) hn'
end
section
variable {prog : Program} {w : World} {A : Around} {E : Value → Shared → Prop} {h : Heap} {g : Array GenState} {d : Drawn} {t : Nat} {os : OsState}
variable {nm q : Str} {C N : Addr} {bs bm bmB : List Value} {hdct : Bool} {sn : List Str} {sub : List Value} {ab : Bool} {col : Option Bool} {dd : Option Addr} {k0 k1 k2 k3 k5 : Option Value} {B newId initId : String}
/-- the bound built-in __init__ is called -/
theorem call_mw (FB : ExcBaseFacts B newId initId bmB) {u e t0 : Addr} {rest : List Value} {Q : Value → Shared → Prop}
    (hC : h.get? C = some (excClassObj nm q C N bs bm hdct sn sub ab col dd k0 k1 k2 k3 k5 newId)) (he : h.get? e = some (excO C t0)) (hu : h.get? u = some (kxs_mw initId e)) (hrest : rest.length ≤ sizeLine)
    (hq : ∀ h' t1, (∀ b o, b ≠ e → h.get? b = some o → h'.get? b = some o) → h'.get? e = some (excO C t1) → Q .none ⟨h', g, d, t, os⟩) :
    wpAny (model prog w) A (call (.ref u) rest) Q E ⟨h, g, d, t, os⟩ := by
  refine wpAny_call (codeAny_of_tree ?_)
  show wpAny _ A.in1 (callAny (.ref u) ⟨rest, []⟩) _ _ _
  simp only [callAny]
  refine wpAny_bind (wpAny_load hu ?_)
  have m1 : (Value.type "method-wrapper" == Value.type "method" || Value.type "method-wrapper" == Value.type "builtin_function_or_method" || Value.type "method-wrapper" == Value.type "method-wrapper") = true := by decide
  simp only [kxs_mw, m1, if_true]
  refine KFB.if_so (by decide) ?_
  refine wpAny_bind (check_bound_init FB.toExcCallFacts hC he rfl ?_)
  refine wpAny_bind (wpAny_pure (wpAny_pure ?_))
  refine ⟨plainId_quiet FB.init.plain _, codeAny_builtin FB.initEntry ?_⟩
  exact exc_init_tree (cls := .ref C) (t0 := t0) (dv := none) (c2 := .none) (c3 := .none) (b4 := .bool false) he hrest fun h' k e' _ => hq h' _ k e'
end
end PL
end

section
set_option Elab.async false
set_option linter.all false
set_option maxRecDepth 100000
set_option maxHeartbeats 4000000
/-! PLExn2: such a class is called. -/
namespace PL
open PySem PySem.Spec PySem.W PySem.Calls
open PyProof.Rows
open PySem.HandSPX (excO refsVE)
theorem sup_inv {st : Stmt} (h : supB st = true) : ∃ p0 p1 ap z j p2 cp p, st = .Expr (.Call (.Attribute (.Call (.Name "super" p0) [] [] p1) "__init__" ap) [.Constant (.str z) j p2] [] cp) p ∧ (ap.endLine == cp.line) = true := by
  cases st <;> first | (cases h; done) | skip
  rename_i e pos
  cases e <;> first | (cases h; done) | skip
  rename_i f as ks cp
  cases f <;> first | (cases h; done) | skip
  rename_i b a ap
  cases b <;> first | (cases h; done) | skip
  rename_i f2 as2 ks2 p1
  cases f2 <;> first | (cases h; done) | skip
  rename_i s p0
  rcases as2 with _ | _ <;> rcases ks2 with _ | _ <;> rcases as with _ | ⟨c, _ | _⟩ <;> first | (cases h; done) | skip
  all_goals (cases c <;> first | (cases h; done) | skip)
  all_goals (rename_i k j p2; cases k <;> first | (cases h; done) | skip)
  rcases ks with _ | _ <;> first | (cases h; done) | skip
  replace h := and_t h; obtain ⟨h1, h⟩ := h
  replace h := and_t h; obtain ⟨h2, h⟩ := h
  have e1 := of_decide_eq_true h1
  have e2 := of_decide_eq_true h2
  subst e1
  subst e2
  exact ⟨_, _, _, _, _, _, _, _, rfl, h⟩
theorem eval_sup {o : Expr} {name z : Str} {ap cp p2 : Pos} {j : Nat} {env : Env} (hl : (ap.endLine == cp.line) = true) : eval (.Call (.Attribute o name ap) [.Constant (.str z) j p2] [] cp) env = (do
      let ov ← attributeBase o name env (eval o env)
      standAt ap.atName
      let (f, first) ← holding [ov] (getMethod ov name (do return (← importBound o env).getD true))
      callWith cp f first (backTo cp (starEach [.Constant (.str z) j p2] env)) []) := by
  have hpos : methodCallPos true o env ap cp = pure cp := by
    unfold methodCallPos
    simp [hl]
  show (do
    let ov ← attributeBase o name env (eval o env)
    standAt ap.atName
    let (f, first) ← holding [ov] (calleeOf true o env ov name)
    let callPos ← methodCallPos true o env ap cp
    callWith callPos f first (backTo cp (starEach [.Constant (.str z) j p2] env)) []) = _
  rw [hpos]
  rfl
theorem asg_inv {f : Str} {fs : List Str} {sts : List Stmt} (h : asgB (f :: fs) sts = true) : ∃ p1 p2 p3 p4 r, sts = .Assign [.Attribute (.Name "self" p1) f p2] (.Name f p3) p4 :: r ∧ asgB fs r = true := by
  rcases sts with _ | ⟨st, r⟩
  · cases h
  · cases st <;> first | (cases h; done) | skip
    rename_i ts v p4
    rcases ts with _ | ⟨tg, _ | _⟩ <;> first | (cases h; done) | skip
    all_goals (cases tg <;> first | (cases h; done) | skip)
    all_goals (rename_i o g p2; cases o <;> first | (cases h; done) | skip)
    all_goals (cases v <;> first | (cases h; done) | skip)
    replace h := and_t h; obtain ⟨h1, h⟩ := h
    replace h := and_t h; obtain ⟨h2, h⟩ := h
    replace h := and_t h; obtain ⟨h3, h⟩ := h
    have e1 := of_decide_eq_true h1
    have e2 := of_decide_eq_true h2
    have e3 := of_decide_eq_true h3
    subst e1
    subst e2
    subst e3
    exact ⟨_, _, _, _, _, rfl, h⟩
theorem looks_mro {K : Frg} {M : Model} {h : Heap} {C : Addr} {cd : ClassData} (X : K.In h) (hc : clsIn K C = some cd) : Looks M h (mroOf (.ref C)) cd.mro := (looks_clsIn X hc).andThen .now
section
variable {prog : Program} {w : World} {A : Around} {E : Value → Shared → Prop} {env : Env} {g : Array GenState} {d : Drawn} {os : OsState}
/-- the stores of the fields behind the first -/
theorem asgs_old {K : Frg} {x C dx L : Addr} {fv : Array Value} {cd : ClassData} {m : Str → Option Value} {Q : Flow → Shared → Prop} (hcd : clsIn K C = some cd) (hm : refsVE cd.mro = true) (hh : cd.hasDict = true)
    (sa : findIn K (.ref C) "__setattr__" = some (some (.builtin "object.__setattr__"))) (hk : env.scope.kind = .function) (hL : env.locals = L) (ls : env.kindOf "self" = some .local) (hs : m "self" = some (.ref x)) (hLd : L ≠ dx) (hKd : K.lookup dx = none) (hxd : x ≠ dx) :
    ∀ {fs : List Str} {sts : List Stmt} {vs : List Value} {hp : Heap} {m0 : Str → Option Value} {nl : List Str} {t : Nat}, asgB fs sts = true → vs.length = fs.length → (∀ f ∈ fs, env.kindOf f = some .local ∧ nmOk f = true ∧ findIn K (.ref C) f = some none) →
      (∀ (i : Nat) (f : Str) (v : Value), fs[i]? = some f → vs[i]? = some v → m f = some v) → K.In hp → hp.get? x = some { cls := .ref C, dict := some dx, data := .fields fv } → hp.Ns L m → hp.Ns1 dx m0 → Within m0 nl → nl.length + fs.length ≤ 1000 →
      (∀ h' tk', (∀ b o, b ≠ dx → hp.get? b = some o → h'.get? b = some o) → h'.Ns1 dx (cont (fs.zip vs) m0) → Q .next ⟨h', g, d, tk', os⟩) → wpAny (model prog w) A (execs sts env) Q E ⟨hp, g, d, t, os⟩
  | [], sts, vs, hp, m0, nl, t, hb, hl, hf, hv, X, hx, hn, hd, hw, hz, hq => by
    rcases sts with _ | _
    · cases vs with
      | nil => exact wpAny_execs_nil (hq hp t (fun _ _ _ h => h) hd)
      | cons _ _ => cases hl
    · cases hb
  | f :: fs, sts, vs, hp, m0, nl, t, hb, hl, hf, hv, X, hx, hn, hd, hw, hz, hq => by
    obtain ⟨p1, p2, p3, p4, r, rfl, hb2⟩ := asg_inv hb
    cases vs with
    | nil => cases hl
    | cons v vs =>
      obtain ⟨lf, of, nf⟩ := hf f List.mem_cons_self
      obtain ⟨oD, esD, epD, hoD, _⟩ := id hd
      refine wpAny_execs_cons (plainObj_wpAny_Assign_Attribute ?_)
      refine PySem.ESX.ldL (v := v) (by rw [hL]; exact hn) (hv 0 f v rfl rfl) (PySem.ESX.ldL (v := .ref x) (by rw [hL]; exact hn) hs ?_ hk ls) hk lf (nm1 of)
      refine set_plain X (ox := { cls := .ref C, dict := some dx, data := .fields fv }) (od := some oD) ⟨hx, rfl, rfl, hoD⟩ sa ?_
      refine exc_old X hx hd hw (by simp at hz; omega) hcd hm hh nf fun h' tk' k' hd' => ?_
      have X' : K.In h' := fun a o e => k' a o (fun z => by rw [z, hKd] at e; cases e) (X a o e)
      have hn' : h'.Ns L m := by
        obtain ⟨oL, es, ep, hoL, rr⟩ := hn
        exact ⟨oL, es, ep, k' _ _ hLd hoL, rr⟩
      refine asgs_old hcd hm hh sa hk hL ls hs hLd hKd hxd hb2 (by simpa using hl) (fun y hy => hf y (List.mem_cons_of_mem _ hy)) (fun i y u h1 h2 => hv (i + 1) y u (by simpa using h1) (by simpa using h2)) X' (k' _ _ hxd hx) hn' hd' (Within.cons f v hw) (by simp at hz ⊢; omega) fun h'' tk'' k'' hd'' => ?_
      exact hq h'' tk'' (fun b o nb e => k'' b o nb (k' b o nb e)) hd''
/-- a made one -/
structure XMade (h h' : Heap) (e C d : Addr) (fs : List Str) (vs : List Value) : Prop where
  keep : ∀ b o, h.get? b = some o → h'.get? b = some o
  new : h.objs.size ≤ e
  obj : ∃ oe fv, h'.get? e = some oe ∧ oe.cls = .ref C ∧ oe.dict = some d ∧ oe.data = .fields fv ∧ fv[1]? = some .none
  dbig : h.objs.size ≤ d
  dne : d ≠ e
  ns : h'.Ns1 d (cont (fs.zip vs) fun _ => none)
theorem own_init {K : Frg} {mg : Str → Option Value} {C fI x t0 : Addr} {name : Str} {fs : List Str} {vs : List Value} {s : Shared} {R : Result → Shared → Prop} (T : XTxt prog K mg C fI name fs) (hl : vs.length = fs.length) (X : K.In s.heap) (G : s.heap.Ns mainGlobals mg)
    (Bn : ∃ mb, s.heap.Ns builtinsNs mb ∧ ∀ y : Str, y ≠ "__name__" → mb y = bootBuiltins y) (hlim : s.heap.NoLimit) (hx : s.heap.get? x = some (excO C t0)) (hnx : K.lookup x = none) (hroom : A.depth < recursionLimit)
    (hq : ∀ h' tk dx, (∀ b o, b ≠ x → s.heap.get? b = some o → h'.get? b = some o) → (∃ t1, h'.get? x = some { cls := .ref C, dict := some dx, data := .fields #[.ref t1, .none, .none, .none, .bool false, .none] }) → s.heap.objs.size ≤ dx → dx ≠ x →
      h'.Ns1 dx (cont (fs.zip vs) fun _ => none) → R (.ok (.ret .none)) { s with heap := h', toks := tk }) :
    codeAny (model prog w) A (.call (.ref fI) ⟨.ref x :: vs, []⟩) R s := by
  obtain ⟨oc, od, osl, qual, params, body, scope, dV, kV, doc, pm, ct, an, cda, cc, lk, hcd, hi, hbind, ⟨ccl, cdd, cvs, ccs, file, tf, lkc, hvs, hfile⟩, ⟨cl, cld, csl, lkcell⟩⟩ := T.fn
  obtain ⟨nm, q, N, bs, bm, sn, sub, ab, col, dd, k0, k1, k2, k3, k5, hC, hbm⟩ := T.cls
  have hcl : clsIn K C = some { name := nm, bases := bs, mro := .ref C :: bm, ns := N, qualname := q, hasDict := true, slotNames := sn, subclasses := sub, abstract := ab, collection := col, hasDel := false } := by unfold clsIn; rw [hC] <;> rfl
  unfold initB at hi
  obtain ⟨hbody, hi⟩ := and_t hi
  obtain ⟨hkd, hi⟩ := and_t hi
  obtain ⟨hco, hi⟩ := and_t hi
  obtain ⟨hgen, hi⟩ := and_t hi
  obtain ⟨hlocs, hi⟩ := and_t hi
  obtain ⟨hsup, hi⟩ := and_t hi
  obtain ⟨hcls, hi⟩ := and_t hi
  obtain ⟨hcell, hself⟩ := and_t hi
  have hkd := of_decide_eq_true hkd
  have hco := of_decide_eq_true hco
  have hgen := of_decide_eq_true hgen
  have hsup := of_decide_eq_true hsup
  have hcls := of_decide_eq_true hcls
  have hself := of_decide_eq_true hself
  have hlocs : ∀ y ∈ (("self" : Str) :: fs), scope.names.lookup y = some .local ∧ nmOk y = true := fun y hy => by
    have := and_t (List.all_eq_true.mp hlocs y hy)
    exact ⟨of_decide_eq_true this.1, this.2⟩
  have hcell : ∀ y ∈ scope.names, y.2 ≠ .cell := fun y hy => of_decide_eq_true (List.all_eq_true.mp hcell y hy)
  obtain ⟨st, r, rfl, hsb, hab⟩ : ∃ st r, body = st :: r ∧ supB st = true ∧ asgB fs r = true := by
    rcases body with _ | ⟨st, r⟩
    · cases hbody
    · exact ⟨st, r, rfl, (and_t hbody).1, (and_t hbody).2⟩
  obtain ⟨p0, p1, ap, z, j, p2, cp, p, rfl, hline⟩ := sup_inv hsb
  have hzl : (("self" : Str) :: fs).length = (Value.ref x :: vs).length := by simp [hl]
  obtain ⟨ar, har, hars⟩ : ∃ ar, (params.posonlyargs ++ params.args).head? = some ar ∧ ar.arg = "self" := by
    cases e : (params.posonlyargs ++ params.args).head? with
    | none => rw [e] at hself; cases hself
    | some ar => rw [e] at hself; exact ⟨ar, rfl, Option.some.inj hself⟩
  obtain ⟨mb, hmb, hmb2⟩ := Bn
  obtain ⟨hp, g, dr, tk, os⟩ := s
  refine ks_codeAny_call_defAt (fd := fnX "__init__" qual params _ scope [("__class__", cc)] dV kV doc pm an (.ref cda) ct) (binds := (("self" : Str) :: fs).zip (.ref x :: vs)) hroom (X _ _ lk) rfl hlim (codeRec_of X hcd) rfl (BindsTo.of_eq (hbind _ (by simp [hl]))) hcell (fun y hy => (hlocs y.1 (List.of_mem_zip hy).1).1) (fun h₁ hns k₁ => ?_) hco hgen hkd
  have hxL : hp.objs.size ≠ x := Nat.ne_of_gt (Heap.lt_size hx)
  have X₁ : K.In h₁ := X.keeps k₁
  have look : ∀ (i : Nat) (f : Str) (v : Value), (("self" : Str) :: fs)[i]? = some f → (Value.ref x :: vs)[i]? = some v → ((("self" : Str) :: fs).zip (.ref x :: vs)).reverse.lookup f = some v := fun i f v h1 h2 => NdefX.zip_look T.nd h1 h2
  have hx₁ := k₁ _ _ hx
  have hC₁ := X₁ _ _ hC
  show _root_.PySem.wpAt (model prog w) (A.deeper (envX qual scope hp.objs.size fI (.ref cda) [("__class__", cc)])) (.func _ (envX qual scope hp.objs.size fI (.ref cda) [("__class__", cc)])) (execs _ (envX qual scope hp.objs.size fI (.ref cda) [("__class__", cc)])) _ _ _
  refine ks_wpAt_execs_cons (ks_wpAt_Expr_any (ks_wpAt_MethodCall (he := eval_sup hline) ?_) (by simp [interactive, hkd]) rfl)
  refine ks_wpAt_super_base (env := envX qual scope hp.objs.size fI (.ref cda) [("__class__", cc)]) hsup hcls rfl rfl (X₁ _ _ lk) rfl har rfl (X₁ _ _ lkc) rfl hvs hfile T.top ?_
  refine ks_loadName_global hkd hsup (loadGlobal_builtin (env := envX qual scope hp.objs.size fI (.ref cda) [("__class__", cc)]) (G.keeps k₁) T.sup (hmb.keeps k₁) ((hmb2 "super" (by decide)).trans (by decide +kernel)) ⟨rfl, ?_⟩)
  refine wpAny_loadName_free hkd hcls rfl ⟨_, X₁ _ _ lkcell, rfl⟩ ?_
  rw [hars]
  refine wpAny_loadName_local hkd (hlocs _ List.mem_cons_self).1 hns (look 0 "self" (.ref x) rfl rfl) ?_
  refine ks_wpAny_isType_cls hC₁ rfl ⟨rfl, ?_⟩
  refine ks_wpAny_call_super hC₁ rfl hx₁ rfl (fun _ e => by cases e) (looks_mroIn X₁ T.slf) (fun h₂ e₂ k₂ => ?_)
  have X₂ : K.In h₂ := X₁.keeps k₂
  have hx₂ := k₂ _ _ hx₁
  have I₂ : InstAt h₂ x (excO C t0) C none := ⟨hx₂, rfl, rfl, trivial⟩
  have halo : alongIn K "__init__" (((Value.ref C :: bm).dropWhile (· != .ref C)).drop 1) = some (some (.builtin "ValueError.__init__")) := by
    have := T.alo
    unfold ks_superIn at this
    rw [hcl] at this
    exact this
  refine kxs_getMethod kxs_ValueError e₂ (looks_opaque X₂ T.opq) (l₀ := .ref C :: bm) (looks_mro X₂ hcl) rfl X₂ halo (I₂.type.andThen (looks_subIn X₂ T.veC)) (ks_ne X₂ I₂ hcl) rfl ?_
  have hu : (h₂.push (kxs_mw "ValueError.__init__" x)).get? h₂.objs.size = some (kxs_mw "ValueError.__init__" x) := Heap.get?_push_at rfl rfl
  have k₃ : ∀ b o, h₂.get? b = some o → (h₂.push (kxs_mw "ValueError.__init__" x)).get? b = some o := fun b o e => Heap.get?_push_of_some _ e
  refine kxs_callWith (i := "ValueError.__init__") (x := x) rfl (evalArgs_plain (spliced_cons (PySem.Calls.Constant_str (x := z) (k := j) (pos := p2) (spliced_nil ⟨hu, ?_⟩))))
  refine call_mw F.excBase_ValueError (k₃ _ _ (X₂ _ _ hC)) (k₃ _ _ hx₂) hu (by simp; rw [sizeLine_eq]; decide) fun h₄ t1 k₄ e₄ => ?_
  have old : ∀ b o, b ≠ x → h₁.get? b = some o → h₄.get? b = some o := fun b o nb e => k₄ b o nb (k₃ _ _ (k₂ _ _ e))
  have X₄ : K.In h₄ := fun a o e => old a o (fun z => by rw [z, hnx] at e; cases e) (X₁ a o e)
  have hn₄ : h₄.Ns hp.objs.size (fun y => ((("self" : Str) :: fs).zip (.ref x :: vs)).reverse.lookup y) := by
    obtain ⟨oL, es, ep, hoL, rr⟩ := hns
    exact ⟨oL, es, ep, old _ _ hxL hoL, rr⟩
  refine wpAt_of_wpAny ?_
  have hne := T.ne
  rcases fs with _ | ⟨f, fs⟩
  · exact absurd rfl hne
  · rcases vs with _ | ⟨v, vs⟩
    · cases hl
    · obtain ⟨q1, q2, q3, q4, r, rfl, hab2⟩ := asg_inv hab
      have lf := hlocs f (List.mem_cons_of_mem _ List.mem_cons_self)
      refine wpAny_execs_cons (plainObj_wpAny_Assign_Attribute ?_)
      refine PySem.ESX.ldL (v := v) hn₄ (look 1 f v rfl rfl) (PySem.ESX.ldL (v := .ref x) hn₄ (look 0 "self" (.ref x) rfl rfl) ?_ hkd (hlocs _ List.mem_cons_self).1) hkd lf.1 (nm1 lf.2)
      refine set_plain X₄ (ox := excO C t1) (od := none) ⟨e₄, rfl, rfl, trivial⟩ T.sa ?_
      refine PySem.HandSPX.exc_osa X₄ e₄ hcl (show refsVE (.ref C :: bm) = true from hbm) rfl (T.noN f List.mem_cons_self) (fun h₅ tk₅ dx k₅ dn dne hx₅ hn₅ => ?_)
      have szs : hp.objs.size < dx := by
        have a1 : hp.objs.size < h₁.objs.size := hns.lt
        have a2 : hp.objs.size < h₄.objs.size := hn₄.lt
        exact Nat.lt_of_lt_of_le a2 dn
      have X₅ : K.In h₅ := fun a o e => k₅ a o (fun z => by rw [z, hnx] at e; cases e) (X₄ a o e)
      have hn₅' : h₅.Ns hp.objs.size (fun y => ((("self" : Str) :: f :: fs).zip (.ref x :: v :: vs)).reverse.lookup y) := by
        obtain ⟨oL, es, ep, hoL, rr⟩ := hn₄
        exact ⟨oL, es, ep, k₅ _ _ hxL hoL, rr⟩
      have hKd : K.lookup dx = none := by
        cases e : K.lookup dx with
        | none => rfl
        | some o =>
          have := Heap.lt_size (X _ _ e)
          exact absurd (Nat.lt_trans this szs) (Nat.lt_irrefl _)
      refine asgs_old (env := envX qual scope hp.objs.size fI (.ref cda) [("__class__", cc)]) (L := hp.objs.size) hcl (show refsVE (.ref C :: bm) = true from hbm) rfl T.sa hkd rfl (hlocs _ List.mem_cons_self).1 (look 0 "self" (.ref x) rfl rfl) (Nat.ne_of_lt szs) hKd dne.symm hab2 (by simpa using hl)
        (fun y hy => ⟨(hlocs y (List.mem_cons_of_mem _ (List.mem_cons_of_mem _ hy))).1, (hlocs y (List.mem_cons_of_mem _ (List.mem_cons_of_mem _ hy))).2, T.noN y (List.mem_cons_of_mem _ hy)⟩) (fun i y u h1 h2 => look (i + 2) y u (by simpa using h1) (by simpa using h2)) X₅ hx₅ hn₅' hn₅ (nl := [f]) (Within.cons f v Within.nil) (by have := T.few; simp at this ⊢; omega) fun h' tk' k' hn' => ?_
      refine hq h' tk' dx (fun b o nb e => k' b o (fun z => ?_) (k₅ b o nb (old b o nb (k₁ b o e)))) ⟨t1, k' _ _ dne.symm hx₅⟩ (Nat.le_of_lt szs) dne hn'
      rw [z] at e
      exact absurd (Nat.lt_trans (Heap.lt_size e) szs) (Nat.lt_irrefl _)
end
end PL
end

section
set_option Elab.async false
set_option linter.all false
set_option maxRecDepth 100000
set_option maxHeartbeats 4000000
/-! PLStm2: each kind of statement. -/
namespace PL
open PySem PySem.Spec
open PyProof.Rows
open L2 hiding start
theorem ps_imp {X : Cx} {st : Stmt} {t t' : TS} (h : PS X st t) (f : ∀ D σ H, t' D σ H → t D σ H) : PS X st t' := ⟨fun pins s σ H D I q => h.run pins s σ H D I (f D σ H q)⟩
theorem pss_imp {X : Cx} {st : List Stmt} {t t' : TS} (h : PSs X st t) (f : ∀ D σ H, t' D σ H → t D σ H) : PSs X st t' := ⟨fun pins s σ H D I q => h.run pins s σ H D I (f D σ H q)⟩
def lcE : Expr → Bool
  | .ListComp _ _ _ _ => true
  | .SetComp _ _ _ _ => true
  | .DictComp _ _ _ _ _ => true
  | _ => false
theorem sw_no {e : Expr} (h : lcE e = false) (t : Option Expr) (l : Nat) (env : Env) : swapsWith e t l env = pure false := by
  cases e <;> first | rfl | cases h
theorem sw_tup {tg e : Expr} (h : tupB tg = true) (l : Nat) (env : Env) : swapsWith e (some tg) l env = pure false := by
  cases tg <;> first | (cases h; done) | skip
  cases e <;> rfl
theorem sw_sub {a b e : Expr} {p : Pos} (l : Nat) (env : Env) : swapsWith e (some (.Subscript a b p)) l env = pure false := by
  cases e <;> rfl
theorem swapped_no {tg e : Expr} (h : tupB e = false) (env : Env) : swappedStores [tg] e env = pure none := by
  cases e <;> first | (cases h; done) | (cases tg <;> rfl)
theorem swapped_sub {a b e : Expr} {p : Pos} (env : Env) : swappedStores [.Subscript a b p] e env = pure none := by
  cases e <;> rfl
/-- what the top has written of the own exceptions -/
structure Xs (p : Pg) (C : Cls) (X : Cx) : Prop where
  cf : C.cf = p.cf
  ok : C.ok = p.cok
  tx : ∀ c, p.cok c = true → ∃ fI, XTxt X.prog X.K X.mg (C.ca c) fI (p.cnm c) (C.cf c)
  ex : ∀ c c', p.cok c = true → p.cok c' = true → PySem.W.exmOne X.K (.ref (C.ca c)) (.ref (C.ca c')) = some (decide (c = c'))
/-- the surroundings of a body's statements -/
structure Bd (T : Tx) (sc : Nms) (C : Cls) (n : Nat) (X : Cx) : Prop where
  sco : Sc T.N X sc
  gb : Gb T.p C n X
  nm : X.env.scope.names = sc
  kd : X.env.scope.kind = .function
  st : X.stack = X.env :: X.outer
  fr : X.env.frame = some X.env.locals
  po : PassesOwn (model X.prog X.w) X.A X.env X.xe
  xs : Xs T.p C X
section
variable {T : Tx} {sc : Nms} {C : Cls} {n : Nat} {X : Cx} {W : WX} {pos : Pos} {ee : Expr} {F : Ev → Rs P}

/-! ### name = e -/
theorem set_of {i : Nat} {te : TE} {st : Stmt} (h : PS X st (tAsg te (gName i))) (f : ∀ σ H Q, tEv C X.K W F σ H Q → te σ H Q) : PS X st (tSv C X.K W fun ρ => (F ρ).bind fun x => Rs.when (decide (i < ρ.length)) (.ok (.nx (ρ.set i (.fz x))))) :=
  ps_imp h fun D σ H ⟨Z, ρ, O, er, hh⟩ => f σ H _ ⟨Z, ρ, O, er, tE_bindO hh fun x v H1 e s r h1 => by
    cases g : decide (i < ρ.length) with
    | false => rw [g] at h1; exact h1.elim
    | true =>
      rw [g] at h1
      exact h1 _ H1 O ((er.same s).set r (of_decide_eq_true g)) .rfl'⟩
theorem rep_zd {Z : Addr → Prop} {K : Frg} {O : List Addr} {H : Hp} {a : Addr} {vs : List V} {ys : List P} (r : Reps K (ZO (ZD Z a) O) H vs ys) : Reps K (ZO Z (a :: O)) H vs ys := r.keep (fun _ _ _ h => h) zo_cons
theorem new_of {i : Nat} {te : TE} {st : Stmt} {G : Ev → Rs (List P)} (h : PS X st (tAsg te (gName i))) (f : ∀ σ H Q, tNv C X.K W G σ H Q → te σ H Q) (hF : ∀ ρ, F ρ = (G ρ).bind fun ys => .ok (.lst ys)) :
    PS X st (tSv C X.K W fun ρ => (F ρ).bind fun x => (newS x).bind fun s => Rs.when (decide (i < ρ.length)) (.ok (.nx (ρ.set i s)))) :=
  ps_imp h fun D σ H ⟨Z, ρ, O, er, hh⟩ => f σ H _ ⟨Z, ρ, O, er, by
    have hh : tO C X.K Z W ((F ρ).bind fun x => (newS x).bind fun s => Rs.when (decide (i < ρ.length)) (.ok (.nx (ρ.set i s)))) O D H := hh
    rw [hF] at hh
    have e : (((G ρ).bind fun ys => Rs.ok (P.lst ys)).bind fun x => (newS x).bind fun s => Rs.when (decide (i < ρ.length)) (.ok (Out.nx (ρ.set i s)))) = (G ρ).bind fun ys => Rs.when (decide (i < ρ.length)) (.ok (Out.nx (ρ.set i (.ow ys)))) := by
      cases G ρ <;> rfl
    rw [e] at hh
    refine tN_bindO hh fun ys a vs H1 e ha s hv r h1 => ?_
    cases g : decide (i < ρ.length) with
    | false => rw [g] at h1; exact h1.elim
    | true =>
      rw [g] at h1
      exact h1 _ H1 (a :: O) (er.hold (of_decide_eq_true g) ha s (by rw [hv]; rfl) (.ow List.mem_cons_self hv (rep_zd r)) fun _ => rfl) (.hold ha s)⟩
theorem newd_of {i : Nat} {st : Stmt} (h : PS X st (tAsg tDNewT (gName i))) (hF : ∀ ρ, F ρ = .ok (.dic [])) :
    PS X st (tSv C X.K W fun ρ => (F ρ).bind fun x => (newS x).bind fun s => Rs.when (decide (i < ρ.length)) (.ok (.nx (ρ.set i s)))) :=
  ps_imp h fun D σ H ⟨Z, ρ, O, er, hh⟩ => fun a ha => by
    have hh : tO C X.K Z W ((F ρ).bind fun x => (newS x).bind fun s => Rs.when (decide (i < ρ.length)) (.ok (.nx (ρ.set i s)))) O D H := hh
    rw [hF] at hh
    have hh : tO C X.K Z W (Rs.when (decide (i < ρ.length)) (.ok (.nx (ρ.set i (.od []))))) O D H := hh
    cases g : decide (i < ρ.length) with
    | false => rw [g] at hh; exact hh.elim
    | true =>
      rw [g] at hh
      exact hh _ _ (a :: O) (er.hold (of_decide_eq_true g) ha (same_upd ha) (by rw [upd_same]; rfl) (.od List.mem_cons_self upd_same .nil) fun _ => rfl) (.hold ha (same_upd ha))
/-- what a list display gives is new -/
theorem lstN {es : List Expr} {Fs : Ev → Rs (List P)} (hs : PA X es (tLv C X.K W Fs)) (hl : ∀ ρ xs, Fs ρ = .ok xs → xs.length ≤ big) : PE X (.List es pos) (tNv C X.K W Fs) :=
  pe_imp (pe_lst hs) fun σ H Q ⟨Z, ρ, O, er, h⟩ => ⟨Z, ρ, O, er, by
    have h : tN C X.K Z W (Fs ρ) O σ H Q := h
    cases e : Fs ρ with
    | exc x => rw [e] at h; exact h
    | bad => rw [e] at h; exact h.elim
    | ok xs =>
      rw [e] at h
      intro vs H1 s r
      refine ⟨by rw [big_eq, r.length]; exact hl ρ xs e, fun p hp => h p vs _ (none_of s hp) (same_tr s (same_upd hp)) upd_same ((r.keep (same_kp (same_upd hp)) fun a ha => ?_))⟩
      rcases ha with (ha | rfl) | ha
      · exact .inl (.inl ha)
      · exact .inr hp
      · exact .inl (.inr ha)⟩
theorem asg_no {i : Nat} {x : Str} {p : Pos} {te : TE} (B : Bd T sc C n X) (hl : lcE ee = false) (hs : storB T sc i x = true) (he : PE X ee te) : PS X (.Assign [.Name x p] ee pos) (tAsg te (gName i)) := by
  obtain ⟨h1, h2, h3⟩ := stor_of B.sco hs
  exact ps_set B.gb.nd h1 h2 he (sw_no hl _ _ _) h3
/-- does the comprehension swap with the name? -/
theorem swap_is {elt : Expr} {gs : List Comprehension} {scope : Scope} {q p : Pos} {y : Str} {l : Nat} (B : Bd T sc C n X) :
    (X.env.scope.names.lookup y = some .local ∧ swapsWith (.ListComp elt gs scope q) (some (.Name y p)) l X.env = pure true) ∨ swapsWith (.ListComp elt gs scope q) (some (.Name y p)) l X.env = pure false := by
  have hb : X.env.blockKind = .function := by unfold Env.blockKind; rw [B.kd]; rfl
  have e : swapsWith (.ListComp elt gs scope q) (some (.Name y p)) l X.env = pure (X.env.blockKind == .function && X.env.kindOf y == some .local && p.line == q.line && !(scope.names.any fun (n, k) => n == y && (k == .local || k == .cell))) := rfl
  rw [e, hb]
  have ek : X.env.kindOf y = X.env.scope.names.lookup y := rfl
  rw [ek]
  by_cases hy : X.env.scope.names.lookup y = some .local
  · cases g : (p.line == q.line && !(scope.names.any fun (n, k) => n == y && (k == .local || k == .cell))) with
    | true =>
      refine .inl ⟨hy, ?_⟩
      rw [Bool.and_eq_true] at g
      rw [hy, g.1, g.2]
      rfl
    | false =>
      refine .inr ?_
      rw [Bool.and_assoc, g, Bool.and_false]
  · refine .inr ?_
    have : (X.env.scope.names.lookup y == some NameKind.local) = false := by
      cases hk : X.env.scope.names.lookup y with
      | none => rfl
      | some k => cases k <;> first | rfl | exact absurd hk hy
    rw [this, Bool.and_false, Bool.false_and, Bool.false_and]
end
end PL
end

section
set_option Elab.async false
set_option linter.all false
set_option maxRecDepth 100000
set_option maxHeartbeats 4000000
/-! PLStm3: .. comprehensions stored, targets, return, if, for, while, append, extend, put, inc. -/
namespace PL
open PySem PySem.Spec
open PyProof.Rows
open L2 hiding start
section
variable {T : Tx} {sc : Nms} {C : Cls} {n : Nat} {X : Cx} {W : WX} {pos p : Pos} {ee : Expr} {F : Ev → Rs P}
abbrev gam (T : Tx) (n : Nat) : Nat → List P → Rs P := callF T.p.D T.p.G n
theorem asg_comp {e : IE} {t : Tg} {own : List Nat} {it : II} {c : IEo} {i : Nat} {x : Str} (B : Bd T sc C n X) (tk : Takes X W) (h : trE T sc (.comp e t own it c) ee = true) (hs : storB T sc i x = true) :
    ∃ te, PS X (.Assign [.Name x p] ee pos) (tAsg te (gName i)) ∧ ∀ σ H Q, tNv C X.K W (fun ρ => (evi (gam T n) T.p.G it ρ).bind fun xs => compP (fun x => stepP (fun ρ => bindT t x (wipeS own ρ)) (evc (gam T n) T.p.G c) (ev (gam T n) T.p.G e) ρ) xs) σ H Q → te σ H Q := by
  have S := B.sco
  have g := B.gb
  obtain ⟨h1', h2', h3'⟩ := stor_of S hs
  obtain ⟨elt, tg, iter, ifs, scope, q, rfl, h1, h2, h3, h4, h5, h6⟩ := inv_comp h
  refine ⟨tLc (tIv C X.K W (evi (gam T n) T.p.G it)) (gT X.K t) (tCv C X.K (fun _ _ _ _ => False) (evc (gam T n) T.p.G c)) (tEv C X.K (fun _ _ _ _ => False) (ev (gam T n) T.p.G e)) ((ownP T own).map (·.2)), ?_, fun σ H Q hh => by rw [own_map]; exact lcN (all_in h4) σ H Q hh⟩
  have hi := (sndI it X sc W tg iter S g tk).1 h1
  have ok := blk_of S h2
  have p1 : ∀ (s : Shared) (H : Hp) (a : Addr) (cl : List (Str × Addr)) (fp : List Addr), PG (X.blk s H scope (compEnvC scope cl a X.env) fp) tg (gT X.K t) := fun s H a cl fp => snd_T (S.blk s H scope cl a fp) g.calm g.nd t tg h3
  have p2 : ∀ (s : Shared) (H : Hp) (a : Addr) (cl : List (Str × Addr)) (fp : List Addr), PTs (X.blk s H scope (compEnvC scope cl a X.env) fp) ifs (tCv C X.K (fun _ _ _ _ => False) (evc (gam T n) T.p.G c)) := fun s H a cl fp => (sndEo c _ _ _ (S.blk s H scope cl a fp) (g.blk s H scope _ fp) takes0).2 ifs h6
  have p3 : ∀ (s : Shared) (H : Hp) (a : Addr) (cl : List (Str × Addr)) (fp : List Addr), PE (X.blk s H scope (compEnvC scope cl a X.env) fp) elt (tEv C X.K (fun _ _ _ _ => False) (ev (gam T n) T.p.G e)) := fun s H a cl fp => (sndE e _ _ _ elt (S.blk s H scope cl a fp) (g.blk s H scope _ fp) takes0 h5).1
  rcases swap_is (elt := elt) (gs := [⟨tg, iter, ifs, 0⟩]) (scope := scope) (q := q) (p := p) (y := x) (l := pos.line) B with ⟨hy, hsw⟩ | hsw
  · exact ps_setLc g.calm g.nd h1' hy hsw hi ok p1 p2 p3 (fold_of (trI_plain h1))
  · exact ps_set g.nd h1' h2' (pe_lc g.calm g.nd hi ok p1 p2 p3 (fold_of (trI_plain h1))) hsw h3'
theorem asg_comp2 {e : IE} {t t2 : Tg} {own own2 : List Nat} {it it2 : II} {c : IEo} {i : Nat} {x : Str} (B : Bd T sc C n X) (tk : Takes X W) (h : trE T sc (.comp2 e t own it t2 own2 it2 c) ee = true) (hs : storB T sc i x = true) :
    ∃ te, PS X (.Assign [.Name x p] ee pos) (tAsg te (gName i)) ∧ ∀ σ H Q, tEv C X.K W (ev (gam T n) T.p.G (.comp2 e t own it t2 own2 it2 c)) σ H Q → te σ H Q := by
  have S := B.sco
  have g := B.gb
  obtain ⟨h1', h2', h3'⟩ := stor_of S hs
  obtain ⟨elt, tg, iter, tg2, iter2, ifs, scope, q, rfl, h1, h2, h3, h4, h5, h6, h7, h8, h9, h10⟩ := inv_comp2 h
  refine ⟨tLc2 (tIv C X.K W (evi (gam T n) T.p.G it)) (gT X.K t) tYes (tIv C X.K (fun _ _ _ _ => False) (evi (gam T n) T.p.G it2)) (gT X.K t2) (tCv C X.K (fun _ _ _ _ => False) (evc (gam T n) T.p.G c)) (tEv C X.K (fun _ _ _ _ => False) (ev (gam T n) T.p.G e)) ((ownP T own).map (·.2)) own2, ?_, fun σ H Q hh => by
    rw [own_map]; exact lc2_of (all_in h4) (all_in h8) σ H Q hh⟩
  have hi := (sndI it X sc W tg iter S g tk).1 h1
  have ok := blk_of S h2
  have hv : ∀ i ∈ own2, i ∈ (ownP T own).map (·.2) := by rw [own_map]; exact all_in h5
  have p1 : ∀ (s : Shared) (H : Hp) (a : Addr) (cl : List (Str × Addr)) (fp : List Addr), PG (X.blk s H scope (compEnvC scope cl a X.env) fp) tg (gT X.K t) := fun s H a cl fp => snd_T (S.blk s H scope cl a fp) g.calm g.nd t tg h3
  have p2 : ∀ (s : Shared) (H : Hp) (a : Addr) (cl : List (Str × Addr)) (fp : List Addr), PTs (X.blk s H scope (compEnvC scope cl a X.env) fp) [] tYes := fun s H a cl fp => pts_nil
  have p4 : ∀ (s : Shared) (H : Hp) (a : Addr) (cl : List (Str × Addr)) (fp : List Addr), PI (X.blk s H scope (compEnvC scope cl a X.env) fp) tg2 iter2 (tIv C X.K (fun _ _ _ _ => False) (evi (gam T n) T.p.G it2)) := fun s H a cl fp => (sndI it2 _ _ _ tg2 iter2 (S.blk s H scope cl a fp) (g.blk s H scope _ fp) takes0).1 h6
  have p5 : ∀ (s : Shared) (H : Hp) (a : Addr) (cl : List (Str × Addr)) (fp : List Addr), PG (X.blk s H scope (compEnvC scope cl a X.env) fp) tg2 (gT X.K t2) := fun s H a cl fp => snd_T (S.blk s H scope cl a fp) g.calm g.nd t2 tg2 h7
  have p6 : ∀ (s : Shared) (H : Hp) (a : Addr) (cl : List (Str × Addr)) (fp : List Addr), PTs (X.blk s H scope (compEnvC scope cl a X.env) fp) ifs (tCv C X.K (fun _ _ _ _ => False) (evc (gam T n) T.p.G c)) := fun s H a cl fp => (sndEo c _ _ _ (S.blk s H scope cl a fp) (g.blk s H scope _ fp) takes0).2 ifs h10
  have p3 : ∀ (s : Shared) (H : Hp) (a : Addr) (cl : List (Str × Addr)) (fp : List Addr), PE (X.blk s H scope (compEnvC scope cl a X.env) fp) elt (tEv C X.K (fun _ _ _ _ => False) (ev (gam T n) T.p.G e)) := fun s H a cl fp => (sndE e _ _ _ elt (S.blk s H scope cl a fp) (g.blk s H scope _ fp) takes0 h9).1
  rcases swap_is (elt := elt) (gs := [⟨tg, iter, [], 0⟩, ⟨tg2, iter2, ifs, 0⟩]) (scope := scope) (q := q) (p := p) (y := x) (l := pos.line) B with ⟨hy, hsw⟩ | hsw
  · exact ps_setLc2 g.calm g.nd h1' hy hsw hi ok hv p1 p2 p4 p5 p6 p3 (fold_of (trI_plain h1)) (fun env => fold_of (trI_plain h6))
  · exact ps_set g.nd h1' h2' (pe_lc2 g.calm g.nd hi ok hv p1 p2 p4 p5 p6 p3 (fold_of (trI_plain h1)) (fun env => fold_of (trI_plain h6))) hsw h3'
theorem bindT_nx : ∀ (t : Tg) (x : P) (ρ : Ev), NX (bindT t x ρ)
  | .v i, x, ρ => nx_when nx_ok
  | .pr a b, x, ρ => by
    unfold bindT
    split <;> first | exact nx_bad | (rename_i h; cases h) | skip
    all_goals first | exact nx_bad | exact nx_bind (bindT_nx a _ _) fun _ => bindT_nx b _ _
  | .tr a b c, x, ρ => by
    unfold bindT
    split <;> first | exact nx_bad | (rename_i h; cases h) | skip
    all_goals first | exact nx_bad | exact nx_bind (bindT_nx a _ _) fun _ => nx_bind (bindT_nx b _ _) fun _ => bindT_nx c _ _
  | .qd a b c d, x, ρ => by
    unfold bindT
    split <;> first | exact nx_bad | (rename_i h; cases h) | skip
    all_goals first | exact nx_bad | exact nx_bind (bindT_nx a _ _) fun _ => nx_bind (bindT_nx b _ _) fun _ => nx_bind (bindT_nx c _ _) fun _ => bindT_nx d _ _
theorem bind_of {t : Tg} {tg : Expr} (B : Bd T sc C n X) (ht : trT T sc t tg = true) (h1 : tupB tg = true) (h2 : tupB ee = false) (he : PE X ee (tEv C X.K W F)) : PS X (.Assign [tg] ee pos) (tSv C X.K W fun ρ => (F ρ).bind fun x => (bindT t x ρ).bind fun ρ' => .ok (.nx ρ')) :=
  ps_imp (ps_asg he (snd_T B.sco B.gb.calm B.gb.nd t tg ht) (sw_tup h1 _ _) (swapped_no h2 _) (by rw [asg_of ht]; rfl)) fun D σ H ⟨Z, ρ, O, er, h⟩ => ⟨Z, ρ, O, er, tE_bindO h fun x v H1 e s r h1 => by
    cases g : bindT t x ρ with
    | exc y => exact absurd g (bindT_nx _ _ _ y)
    | bad => rw [g] at h1; exact h1.elim
    | ok ρ' =>
      rw [g] at h1
      exact ⟨Z, ρ, O, x, ρ', er.same s, r, g, fun σ' er' _ => h1 σ' H1 O er' .rfl'⟩⟩
theorem ret_of (he : PE X ee (tEv C X.K W F)) : PS X (.Return (some ee) pos) (tSv C X.K W fun ρ => (F ρ).bind fun x => .ok (.rt x)) :=
  ps_imp (ps_ret he) fun D σ H ⟨Z, ρ, O, er, h⟩ => ⟨Z, ρ, O, er, tE_bindO h fun x v H1 e s r h1 => h1 v H1 O .rfl' r⟩
theorem eff_of (hl : lcE ee = false) (he : PE X ee (tEv C X.K W F)) : PS X (.Expr ee pos) (tSv C X.K W fun ρ => (F ρ).bind fun _ => .ok (.nx ρ)) :=
  ps_imp (ps_expr he (sw_no hl _ _ _)) fun D σ H ⟨Z, ρ, O, er, h⟩ => ⟨Z, ρ, O, er, tE_bindO h fun x v H1 e s r h1 => h1 σ H1 O (er.same s) .rfl'⟩
theorem ite_of {as bs : List Stmt} {Fa Fb : Ev → Rs Out} (hc : PT X ee (tTv C X.K W F)) (ha : PSs X as (tSv C X.K W Fa)) (hb : PSs X bs (tSv C X.K W Fb)) : PS X (.If ee as bs pos) (tSv C X.K W fun ρ => (F ρ).bind fun x => (asB x).bind fun k => if k then Fa ρ else Fb ρ) :=
  ps_imp (ps_if hc ha hb) fun D σ H ⟨Z, ρ, O, er, h⟩ => ⟨Z, ρ, O, er, by
    have h : tO C X.K Z W ((F ρ).bind fun x => (asB x).bind fun k => if k then Fa ρ else Fb ρ) O D H := h
    cases g : F ρ with
    | exc x => rw [g] at h; exact tX_of h
    | bad => rw [g] at h; exact h.elim
    | ok x =>
      rw [g] at h
      cases x with
      | bl k =>
        intro H1 s
        cases k with
        | true => exact ⟨Z, ρ, O, er.same s, tO.same s h⟩
        | false => exact ⟨Z, ρ, O, er.same s, tO.same s h⟩
      | _ => exact h.elim⟩
theorem for_of {t : Tg} {tg iter : Expr} {body : List Stmt} {Fi : Ev → Rs (List P)} {Fb : Ev → Rs Out} {kill : List Nat} (B : Bd T sc C n X) (ht : trT T sc t tg = true) (hp : plainB iter = true) (hi : PI X tg iter (tIv C X.K W Fi)) (hb : PSs X body (tSv C X.K W Fb)) :
    PS X (.For tg iter body [] pos) (tSv C X.K W fun ρ => (Fi ρ).bind fun xs => seqO (forP (fun x ρ => seqO ((bindT t x ρ).bind fun ρ1 => Fb ρ1) fun ρ2 => .ok (.nx (wipeS kill ρ2))) xs (wipeS kill ρ)) fun ρ' => .ok (.nx ρ')) :=
  ps_imp (ps_for B.po B.gb.calm hi (snd_T B.sco B.gb.calm B.gb.nd t tg ht) hb (fold_of hp)) fun D σ H ⟨Z, ρ, O, er, h⟩ => ⟨Z, ρ, O, er, tI_bindO h fun xs J H1 e s ir h1 => by
    obtain ⟨hz, G, Y, w, gm, yy⟩ := ir
    have er1 := er.same s
    refine for_it w (fun i σ' H' => ∃ ρ' O', EnvRep X.K Z O' H' σ' ρ' ∧ MvO O H1 O' H' ∧ tO C X.K Z W (seqO (forP (fun x ρ => seqO ((bindT t x ρ).bind fun ρ1 => Fb ρ1) fun ρ2 => .ok (.nx (wipeS kill ρ2))) (xs.drop i) ρ') fun ρ' => .ok (.nx ρ')) O' D H') ⟨wipeS kill ρ, O, er1.kill kill, .rfl', h1⟩ (fun i σ' H' _ ⟨ρ', O', _, m, _⟩ => gm _ _ m.mv) ?_ ?_
    · rintro i v σ2 H2 H3 hi ⟨ρ2, O2, er2, m2, h2⟩ y
      obtain ⟨s3, p, hp, rp⟩ := yy i v _ H2 H3 hi m2.mv (fun a ha => er2.fresh ha) y
      rw [drop_at hp] at h2
      have er3 := er2.same s3
      have h3 := h2.same s3
      cases g : bindT t p ρ2 with
      | exc x => exact absurd g (bindT_nx _ _ _ x)
      | bad =>
        have h3 : tO C X.K Z W (seqO (seqO (seqO ((bindT t p ρ2).bind fun ρ1 => Fb ρ1) fun ρ2 => .ok (.nx (wipeS kill ρ2))) fun ρ' => forP (fun x ρ => seqO ((bindT t x ρ).bind fun ρ1 => Fb ρ1) fun ρ2 => .ok (.nx (wipeS kill ρ2))) (xs.drop (i + 1)) ρ') fun ρ' => .ok (.nx ρ')) O2 D H3 := h3
        rw [g] at h3
        exact h3.elim
      | ok ρ3 =>
        have h3 : tO C X.K Z W (seqO (seqO (seqO ((bindT t p ρ2).bind fun ρ1 => Fb ρ1) fun ρ2 => .ok (.nx (wipeS kill ρ2))) fun ρ' => forP (fun x ρ => seqO ((bindT t x ρ).bind fun ρ1 => Fb ρ1) fun ρ2 => .ok (.nx (wipeS kill ρ2))) (xs.drop (i + 1)) ρ') fun ρ' => .ok (.nx ρ')) O2 D H3 := h3
        rw [g] at h3
        refine ⟨Z, ρ2, O2, p, ρ3, er3, rp, g, fun σ4 er4 _ => ⟨Z, ρ3, O2, er4, ?_⟩⟩
        have h3 : tO C X.K Z W (seqO (seqO (seqO (Fb ρ3) fun ρ2 => .ok (.nx (wipeS kill ρ2))) fun ρ' => forP (fun x ρ => seqO ((bindT t x ρ).bind fun ρ1 => Fb ρ1) fun ρ2 => .ok (.nx (wipeS kill ρ2))) (xs.drop (i + 1)) ρ') fun ρ' => .ok (.nx ρ')) O2 D H3 := h3
        cases k : Fb ρ3 with
        | exc x => rw [k] at h3; exact h3
        | bad => rw [k] at h3; exact h3
        | ok o =>
          rw [k] at h3
          cases o with
          | rt q => exact h3
          | nx ρ4 => exact fun σ5 H5 O5 er5 m5 => ⟨wipeS kill ρ4, O5, er5.kill kill, (m2.trans (.same s3)).trans m5, h3.mv m5⟩
    · rintro σ2 H2 ⟨ρ2, O2, er2, m2, h2⟩
      rw [List.drop_length] at h2
      exact h2 σ2 H2 O2 er2 .rfl'⟩
theorem whl_of {c : Expr} {body : List Stmt} {Fb : Ev → Rs Out} {kill : List Nat} {m : Nat} (B : Bd T sc C n X) (hc : PT X c (tTv C X.K W F)) (hb : PSs X body (tSv C X.K W Fb)) :
    PS X (.While c body [] pos) (tSv C X.K W fun ρ => whlP (fun ρ => (F ρ).bind asB) (fun ρ => seqO (Fb ρ) fun ρ2 => .ok (.nx (wipeS kill ρ2))) m (wipeS kill ρ)) :=
  ps_imp (ps_while B.po hc hb) fun D σ H ⟨Z, ρ, O, er, h⟩ => by
    refine ⟨fun m σ' H' => ∃ ρ' O', EnvRep X.K Z O' H' σ' ρ' ∧ tO C X.K Z W (whlP (fun ρ => (F ρ).bind asB) (fun ρ => seqO (Fb ρ) fun ρ2 => .ok (.nx (wipeS kill ρ2))) m ρ') O' D H', ⟨m, wipeS kill ρ, O, er.kill kill, h⟩, ?_⟩
    rintro m σ1 H1 ⟨ρ1, O1, er1, h1⟩
    refine ⟨Z, ρ1, O1, er1, ?_⟩
    cases m with
    | zero => exact h1.elim
    | succ m =>
      have h1 : tO C X.K Z W (((F ρ1).bind asB).bind fun k => if k then seqO (seqO (Fb ρ1) fun ρ2 => .ok (.nx (wipeS kill ρ2))) fun ρ' => whlP (fun ρ => (F ρ).bind asB) (fun ρ => seqO (Fb ρ) fun ρ2 => .ok (.nx (wipeS kill ρ2))) m ρ' else .ok (.nx ρ1)) O1 D H1 := h1
      refine tG_bindO h1 fun k H2 e s h2 => ?_
      have er2 := er1.same s
      cases k with
      | false => exact h2 σ1 H2 O1 er2 .rfl'
      | true =>
        refine ⟨fun σ' H' => ∃ ρ' O', EnvRep X.K Z O' H' σ' ρ' ∧ tO C X.K Z W (whlP (fun ρ => (F ρ).bind asB) (fun ρ => seqO (Fb ρ) fun ρ2 => .ok (.nx (wipeS kill ρ2))) m ρ') O' D H', fun σ' H' w => ⟨m, Nat.lt_succ_self m, w⟩, Z, ρ1, O1, er2, ?_⟩
        have h2 : tO C X.K Z W (seqO (seqO (Fb ρ1) fun ρ2 => .ok (.nx (wipeS kill ρ2))) fun ρ' => whlP (fun ρ => (F ρ).bind asB) (fun ρ => seqO (Fb ρ) fun ρ2 => .ok (.nx (wipeS kill ρ2))) m ρ') O1 D H2 := h2
        cases k : Fb ρ1 with
        | exc x => rw [k] at h2; exact h2
        | bad => rw [k] at h2; exact h2
        | ok o =>
          rw [k] at h2
          cases o with
          | rt q => exact h2
          | nx ρ4 => exact fun σ5 H5 O5 er5 m5 => ⟨wipeS kill ρ4, O5, er5.kill kill, h2.mv m5⟩

/-! ### lists and dicts that are held -/
theorem few_of {a b : Pos} (hp : plainB ee = true) (env : Env) : ((backTo b (starEach [ee] env)).all (fun x => !x.1) && (backToKw b (keywordEach [] env)).all (fun x => x.1.isSome)
      && decide (([ee] : List Expr).length + ([] : List Keyword).length + (if ([] : List Keyword).isEmpty then 0 else 1) < 30)) = true := by
  rw [star_of hp]
  rfl
theorem ow_in {Z : Addr → Prop} {O : List Addr} {σ : L2.St} {H : Hp} {ρ : Ev} {i : Nat} {s : Sl} {a : Addr} (er : EnvRep X.K Z O H σ ρ) (g : ρ[i]? = some s) (ho : isOwn s = true) (e : σ[i]? = some (some (.ref a))) : a ∈ O := by
  obtain ⟨o, f1, f2⟩ := er.sl i _ g
  rw [e] at f1
  cases f1
  cases f2 with
  | un => cases ho
  | fz _ => cases ho
  | ow n1 _ _ => exact n1
  | od n1 _ _ => exact n1
theorem kp_in {Z : Addr → Prop} {O : List Addr} {H : Hp} {a : Addr} {o : HO} (ha : a ∈ O) : Keep (ZO Z O) H (upd H a o) := fun b u nb e => upd_other b u (fun z => nb (.inr (z ▸ ha))) e
theorem owB_of {ρ : Ev} {i : Nat} (h : owB ρ i = true) : ∃ ps, ρ[i]? = some (.ow ps) := by
  unfold owB at h
  split at h
  · exact ⟨_, ‹_›⟩
  · cases h
theorem tO_when {Z : Addr → Prop} {O : List Addr} {H : Hp} {D : Ends} {c : Bool} {r : Rs Out} (h : tO C X.K Z W (Rs.when c r) O D H) : c = true ∧ tO C X.K Z W r O D H := by
  cases c with
  | true => exact ⟨rfl, h⟩
  | false => exact h.elim
theorem app_of {i : Nat} {x : Str} {xp ap cp : Pos} (B : Bd T sc C n X) (hs : slotB T sc i x = true) (hp : plainB ee = true) (hl : (ap.endLine == cp.line) = true) (he : PE X ee (tEv C X.K W F)) :
    PS X (.Expr (.Call (.Attribute (.Name x xp) "append" ap) [ee] [] cp) pos) (tSv C X.K W fun ρ => Rs.when (owB ρ i) ((F ρ).bind fun x => (appS ρ i x).bind fun ρ' => .ok (.nx ρ'))) := by
  obtain ⟨h1, h2, h3⟩ := slot_of B.sco hs
  refine ps_imp (ps_expr (pe_bm PySem.F.plainAttrs_list PySem.F.slot_list_append PySem.F.type_list_append mt_append (pe_var h1 h2 (nm1 h3) (nm2 h3)) (pa_cons he pa_nil (star_of hp)) rfl (few_of (a := ap) hp _) hl (star_of hp)) rfl) fun D σ H ⟨Z, ρ, O, er, h⟩ => ?_
  obtain ⟨hw, h⟩ := tO_when h
  obtain ⟨ps, g⟩ := owB_of hw
  obtain ⟨a, vs, e1, e2, r⟩ := slot_seq er g
  refine ⟨_, e1, .inl ⟨rfl, vs, .of e2⟩, Z, ρ, O, er, tE_bindO h fun y v H1 e s ry h1 => ?_⟩
  have e : appS ρ i y = Rs.when (decide (ps.length < big)) (.ok (ρ.set i (.ow (ps ++ [y])))) := by unfold appS; rw [g]
  rw [e] at h1
  cases hl : decide (ps.length < big) with
  | false => rw [hl] at h1; exact h1.elim
  | true =>
    rw [hl] at h1
    have ha := ow_in er g rfl e1
    obtain ⟨er2, m2⟩ := (er.same s).chg (o := .lst (vs ++ [v])) (s := .ow (ps ++ [y])) g rfl e1 (.ow ha upd_same (((r.same s).append (.cons ry .nil)).keep (kp_in ha) fun _ h => .inl h)) rfl
    exact ⟨a, vs, v, rfl, rfl, s _ _ e2, by rw [big_eq, r.length]; exact of_decide_eq_true hl, h1 σ _ O er2 m2⟩
theorem ext_of {i : Nat} {x : Str} {xp ap cp : Pos} (B : Bd T sc C n X) (hs : slotB T sc i x = true) (hp : plainB ee = true) (hl : (ap.endLine == cp.line) = true) (he : PE X ee (tEv C X.K W F)) :
    PS X (.Expr (.Call (.Attribute (.Name x xp) "extend" ap) [ee] [] cp) pos) (tSv C X.K W fun ρ => Rs.when (owB ρ i) ((F ρ).bind fun x => (extS ρ i x).bind fun ρ' => .ok (.nx ρ'))) := by
  obtain ⟨h1, h2, h3⟩ := slot_of B.sco hs
  refine ps_imp (ps_expr (pe_bm PySem.F.plainAttrs_list PySem.F.slot_list_extend PySem.F.type_list_extend mt_extend (pe_var h1 h2 (nm1 h3) (nm2 h3)) (pa_cons he pa_nil (star_of hp)) rfl (few_of (a := ap) hp _) hl (star_of hp)) rfl) fun D σ H ⟨Z, ρ, O, er, h⟩ => ?_
  obtain ⟨hw, h⟩ := tO_when h
  obtain ⟨ps, g⟩ := owB_of hw
  obtain ⟨a, vs, e1, e2, r⟩ := slot_seq er g
  refine ⟨_, e1, .inl ⟨rfl, vs, .of e2⟩, Z, ρ, O, er, tE_bindO h fun y v H1 e s ry h1 => ?_⟩
  cases y with
  | lst ys =>
    have e : extS ρ i (.lst ys) = Rs.when (decide (ps.length + ys.length ≤ big)) (.ok (ρ.set i (.ow (ps ++ ys)))) := by unfold extS; rw [g]
    rw [e] at h1
    cases hl : decide (ps.length + ys.length ≤ big) with
    | false => rw [hl] at h1; exact h1.elim
    | true =>
      rw [hl] at h1
      have ha := ow_in er g rfl e1
      cases ry with
      | lst m1 m2 m3 =>
        obtain ⟨er2, mv2⟩ := (er.same s).chg (o := .lst (vs ++ _)) (s := .ow (ps ++ ys)) g rfl e1 (.ow ha upd_same (((r.same s).append m3).keep (kp_in ha) fun _ h => .inl h)) rfl
        exact ⟨a, _, vs, _, rfl, rfl, s _ _ e2, m2, by rw [big_eq, r.length, m3.length]; exact of_decide_eq_true hl, h1 σ _ O er2 mv2⟩
  | _ =>
    have e : ∀ z, extS ρ i z = match z with | .lst ys => Rs.when (decide (ps.length + ys.length ≤ big)) (.ok (ρ.set i (.ow (ps ++ ys)))) | _ => .bad := fun z => by unfold extS; rw [g]; cases z <;> rfl
    rw [e] at h1
    exact h1.elim
/-! o[k] = v -/
def rSet2 : TSet := fun o i v H Q => rSetL o i v H Q ∨ rSetD o i v H Q
theorem set2 (hu : X.A.units + 65 < cLine) : PSet X rSet2 := fun pins s σ H o i v ov iv u Q I ro ri rv h => by
  rcases h with h | h
  · exact set_list pins s σ H o i v ov iv u Q I ro ri rv h
  · exact set_dict (by omega) pins s σ H o i v ov iv u Q I ro ri rv h
theorem kinj {k0 k : List Int} : (k0.map (Sum.inl : Int → Key) = k.map Sum.inl) ↔ k0 = k := ⟨fun e => (List.map_inj_right (fun a b h => by injection h)).mp e, fun e => by rw [e]⟩
theorem repD_any {K : Frg} {B : Addr → Prop} {H : Hp} (k : List Int) : ∀ {ds : List (List Key × V)} {kvs : List (List Int × P)}, RepD K B H ds kvs → (ds.any fun kv => decide (kv.1 = k.map Sum.inl)) = kvs.any fun kv => decide (kv.1 = k)
  | _, _, .nil => rfl
  | _, _, .cons (k := k0) _ t => by
    rw [List.any_cons, List.any_cons, repD_any k t]
    congr 1
    by_cases hk : k0 = k
    · rw [decide_eq_true (kinj.mpr hk), decide_eq_true hk]
    · rw [decide_eq_false (fun z => hk (kinj.mp z)), decide_eq_false hk]
theorem repD_map {K : Frg} {B : Addr → Prop} {H : Hp} (k : List Int) {v : V} {p : P} (rv : Rep K B H v p) : ∀ {ds : List (List Key × V)} {kvs : List (List Int × P)}, RepD K B H ds kvs →
    RepD K B H (ds.map fun kv => if kv.1 = k.map Sum.inl then (kv.1, v) else kv) (kvs.map fun kv => if kv.1 = k then (k, p) else kv)
  | _, _, .nil => .nil
  | _, _, .cons (k := k0) r0 t => by
    rw [List.map_cons, List.map_cons]
    by_cases hk : k0 = k
    · rw [if_pos (kinj.mpr hk), if_pos hk]
      subst hk
      exact .cons rv (repD_map _ rv t)
    · rw [if_neg (fun z => hk (kinj.mp z)), if_neg hk]
      exact .cons r0 (repD_map k rv t)
theorem repD_snoc {K : Frg} {B : Addr → Prop} {H : Hp} (k : List Int) {v : V} {p : P} (rv : Rep K B H v p) : ∀ {ds : List (List Key × V)} {kvs : List (List Int × P)}, RepD K B H ds kvs → RepD K B H (ds ++ [(k.map Sum.inl, v)]) (kvs ++ [(k, p)])
  | _, _, .nil => .cons rv .nil
  | _, _, .cons r0 t => .cons r0 (repD_snoc k rv t)
theorem repD_put {K : Frg} {B : Addr → Prop} {H : Hp} {ds : List (List Key × V)} {kvs : List (List Int × P)} (r : RepD K B H ds kvs) (k : List Int) {v : V} {p : P} (rv : Rep K B H v p) : RepD K B H (putK ds (k.map Sum.inl) v) (dput kvs k p) := by
  unfold putK dput
  rw [repD_any k r]
  split
  · exact repD_map k rv r
  · exact repD_snoc k rv r
theorem repD_len {K : Frg} {B : Addr → Prop} {H : Hp} : ∀ {ds : List (List Key × V)} {kvs : List (List Int × P)}, RepD K B H ds kvs → ds.length = kvs.length
  | _, _, .nil => rfl
  | _, _, .cons _ t => by rw [List.length_cons, List.length_cons, repD_len t]
theorem asg_sub {o i : Expr} (hp : plainB i = true) : ∀ v, assign (.Subscript o i pos) X.env v = (do
      let ov ← holding [v] (eval o X.env)
      let iv ← holding [v, ov] (eval i X.env)
      standAt pos
      holding [v, ov, iv] (setItem ov iv v)
      release [v, ov, iv] []) := fun v => by
  cases i <;> first | rfl | cases hp
theorem hd_of {ρ : Ev} {i : Nat} (h : hdB ρ i = true) : (∃ ps, ρ[i]? = some (.ow ps)) ∨ ∃ ps, ρ[i]? = some (.od ps) := by
  unfold hdB at h
  split at h
  · exact .inl ⟨_, ‹_›⟩
  · exact .inr ⟨_, ‹_›⟩
  · cases h
theorem swl_sub {o i e : Expr} {sp : Pos} (l : Nat) (env : Env) : swapsWithSole [.Subscript o i sp] e l env = pure false := by
  cases e <;> rfl
theorem put_of {i : Nat} {x : Str} {xp sp : Pos} {ek : Expr} {Fk : Ev → Rs P} (B : Bd T sc C n X) (hs : slotB T sc i x = true) (hp : plainB ek = true) (he : PE X ee (tEv C X.K W F)) (hk : PE X ek (tEv C X.K W Fk)) :
    PS X (.Assign [.Subscript (.Name x xp) ek sp] ee pos) (tSv C X.K W fun ρ => (F ρ).bind fun x => Rs.when (hdB ρ i) ((Fk ρ).bind fun y => (putS ρ i y x).bind fun ρ' => .ok (.nx ρ'))) := by
  obtain ⟨h1, h2, h3⟩ := slot_of B.sco hs
  refine ps_imp (ps_asg he (pg_sub (pe_var h1 h2 (nm1 h3) (nm2 h3)) hk (set2 B.gb.hu) (asg_sub hp)) (swl_sub _ _) (swapped_sub _) rfl) fun D σ H ⟨Z, ρ, O, er, h⟩ => ⟨Z, ρ, O, er, tE_bindO h fun p v H1 e s r h1 => ?_⟩
  obtain ⟨hw, h1⟩ := tO_when h1
  have er1 := er.same s
  rcases hd_of hw with ⟨ps, g⟩ | ⟨ps, g⟩
  · obtain ⟨a, vs, e1, e2, ra⟩ := slot_seq er1 g
    refine ⟨_, e1, Z, ρ, O, er1, tE_bindO h1 fun y u H2 e4 s2 ry h2 => .inl ?_⟩
    have e : putS ρ i y p = (asI y).bind fun n => match ixN ps.length n with | some j => .ok (ρ.set i (.ow (ps.set j p))) | none => .bad := by
      unfold putS
      rw [g]
      try rfl
    rw [e] at h2
    cases y with
    | int k =>
      cases ry
      have h2 : tO C X.K Z W ((match ixN ps.length k with | some j => Rs.ok (ρ.set i (.ow (ps.set j p))) | none => .bad).bind fun ρ' => .ok (.nx ρ')) O D H2 := h2
      cases hj : ixN ps.length k with
      | none => rw [hj] at h2; exact h2.elim
      | some j =>
        rw [hj] at h2
        have ha := ow_in er1 g rfl e1
        obtain ⟨er2, m2⟩ := (er1.same s2).chg (o := .lst (vs.set j v)) (s := .ow (ps.set j p)) g rfl e1 (.ow ha upd_same ((Reps.set (r.same s2) j (ra.same s2)).keep (kp_in ha) fun _ h => .inl h)) rfl
        exact ⟨a, vs, k, j, rfl, rfl, s2 _ _ e2, by rw [ra.length]; exact hj, h2 σ _ O er2 m2⟩
    | _ => exact h2.elim
  · obtain ⟨a, vs, e1, e2, ra⟩ := slot_dic er1 g
    refine ⟨_, e1, Z, ρ, O, er1, tE_bindO h1 fun y u H2 e4 s2 ry h2 => .inr ?_⟩
    cases y with
    | tup ks =>
      have e : putS ρ i (.tup ks) p = match intsL ks with | some q => Rs.when (decide (ps.length < big)) (.ok (ρ.set i (.od (dput ps q p)))) | none => .bad := by
        unfold putS
        rw [g]
        try rfl
      rw [e] at h2
      cases hq : intsL ks with
      | none => rw [hq] at h2; exact h2.elim
      | some q =>
        rw [hq] at h2
        have h2 : tO C X.K Z W ((Rs.when (decide (ps.length < big)) (.ok (ρ.set i (.od (dput ps q p))))).bind fun ρ' => .ok (.nx ρ')) O D H2 := h2
        cases hl : decide (ps.length < big) with
        | false => rw [hl] at h2; exact h2.elim
        | true =>
          rw [hl] at h2
          have ha := ow_in er1 g rfl e1
          cases ry with
          | tup m1 m2 m3 =>
            have ei := m3.ints hq
            subst ei
            obtain ⟨er2, mv2⟩ := (er1.same s2).chg (o := .dT (putK vs (q.map Sum.inl) v)) (s := .od (dput ps q p)) g rfl e1 (.od ha upd_same ((repD_put (ra.same s2) q (r.same s2)).keep (kp_in ha) fun _ h => .inl h)) rfl
            exact ⟨a, _, rfl, .t (s2 _ _ e2) (by rw [m2, keys_of]) (by rw [big_eq, repD_len ra]; exact of_decide_eq_true hl), h2 σ _ O er2 mv2⟩
    | _ =>
      have e : ∀ z, (∀ ks, z ≠ P.tup ks) → putS ρ i z p = .bad := fun z hz => by
        unfold putS
        rw [g]
        cases z <;> first | rfl | exact absurd rfl (hz _)
      rw [e _ (fun _ z => by cases z)] at h2
      exact h2.elim
theorem inc_of {i : Nat} {x : Str} {xp : Pos} (B : Bd T sc C n X) (hs : storB T sc i x = true) (he : PE X ee (tEv C X.K W F)) :
    PS X (.AugAssign (.Name x xp) .Add ee pos) (tSv C X.K W fun ρ => (getS ρ i).bind fun y => (F ρ).bind fun x => (incP y x).bind fun z => .ok (.nx (ρ.set i (.fz z)))) := by
  obtain ⟨h1, h2, h3⟩ := stor_of B.sco hs
  refine ps_imp (ps_aug B.gb.nd h1 h2 he ip_add h3) fun D σ H ⟨Z, ρ, O, er, h⟩ => ?_
  have h : tO C X.K Z W ((getS ρ i).bind fun y => (F ρ).bind fun x => (incP y x).bind fun z => .ok (.nx (ρ.set i (.fz z)))) O D H := h
  cases g : getS ρ i with
  | exc x => exact absurd g (getS_nx _ _ x)
  | bad => rw [g] at h; exact h.elim
  | ok y =>
    rw [g] at h
    obtain ⟨v, e1, r⟩ := er.get g
    have hi : i < ρ.length := by rw [← er.len]; exact (List.getElem?_eq_some_iff.mp e1).1
    refine ⟨v, e1, Z, ρ, O, er, tE_bindO h fun z u H1 e s rz h4 => ?_⟩
    cases y with
    | int a =>
      cases z with
      | int b =>
        cases r
        cases rz
        exact ⟨a, b, rfl, rfl, h4 _ H1 O ((er.same s).set (.int _) hi) .rfl'⟩
      | _ => exact h4.elim
    | _ => cases z <;> exact h4.elim
end
end PL
end

section
set_option Elab.async false
set_option linter.all false
set_option maxRecDepth 100000
set_option maxHeartbeats 4000000
/-! PLRaise: raise C(..). -/
namespace PL
open PySem PySem.Spec PySem.W PySem.Calls
open PyProof.Rows
open PySem.HandSPX (excO refsVE)
open L2 hiding start

section
variable {prog : Program} {w : World} {A : Around} {R : Result → Shared → Prop} {s : Shared} {K : Frg} {mg : Str → Option Value} {C fI : Addr} {name : Str} {fs : List Str} {vs : List Value}
theorem own_made (T : XTxt prog K mg C fI name fs) (hl : vs.length = fs.length) (X : K.In s.heap) (G : s.heap.Ns mainGlobals mg) (Bn : ∃ mb, s.heap.Ns builtinsNs mb ∧ ∀ y : Str, y ≠ "__name__" → mb y = bootBuiltins y) (hlim : s.heap.NoLimit) (hroom : A.depth + 1 < recursionLimit)
    (hq : ∀ h' tk e d, XMade s.heap h' e C d fs vs → R (.ok (.ret (.ref e))) { s with heap := h', toks := tk }) : codeAny (model prog w) A (.call (.ref C) ⟨vs, []⟩) R s := by
  obtain ⟨nm, q, N, bs, bm, sn, sub, ab, col, dd, k0, k1, k2, k3, k5, hC, hbm⟩ := T.cls
  obtain ⟨hp, g, dr, tk, os⟩ := s
  have up : ∀ b o, hp.get? b = some o → ((hp.push (kdv_tup vs)).push (excO C hp.objs.size)).get? b = some o := fun b o e => Heap.get?_push_of_some _ (Heap.get?_push_of_some _ e)
  have there : ((hp.push (kdv_tup vs)).push (excO C hp.objs.size)).get? (hp.objs.size + 1) = some (excO C hp.objs.size) := by heap_get
  have out : K.lookup (hp.objs.size + 1) = none := by
    cases e : K.lookup (hp.objs.size + 1) with
    | none => rfl
    | some o => exact absurd (Nat.lt_of_succ_lt (Heap.lt_size (show hp.get? (hp.objs.size + 1) = some o from X _ _ e))) (Nat.lt_irrefl _)
  have hz : vs.length ≤ sizeLine := by
    have := T.few
    rw [sizeLine_eq, hl]
    omega
  refine PySem.HandSPX.call_own F.excBase_ValueError (fun Y => PySem.HandSPX.refsVE_contains Y bm hbm) (X _ _ hC) (looks_findIn X T.iC) (fun self => bind_fn X self T.tI) hz ?_
  refine own_init (s := ⟨(hp.push (kdv_tup vs)).push (excO C hp.objs.size), g, dr, tk, os⟩) T hl (X.keeps up) (G.keeps up) (let ⟨mb, h1, h2⟩ := Bn; ⟨mb, h1.keeps up, h2⟩) (hlim.keeps up) there out (show A.depth + 1 < recursionLimit from hroom) fun h' tk' dx k' ⟨t1, hx⟩ dn dne hns => ?_
  have z : hp.objs.size + 1 + 1 ≤ dx := by
    first
      | (simpa only [Heap.size_push] using dn)
      | (have q := dn; rw [Heap.size_push, Heap.size_push] at q; exact q)
  exact ⟨rfl, hq h' tk' (hp.objs.size + 1) dx ⟨fun b o e => k' b o (Nat.ne_of_lt (Nat.lt_succ_of_lt (Heap.lt_size e))) (up b o e), Nat.le_succ _, ⟨_, _, hx, rfl, rfl, rfl, rfl⟩, Nat.le_trans (Nat.le_trans (Nat.le_succ _) (Nat.le_succ _)) z, dne, hns⟩⟩
end
theorem cont_look : ∀ (l : List (Str × Value)) (m : Str → Option Value) (y : Str), (l.map Prod.fst).Nodup → cont l m y = match l.lookup y with | some v => some v | none => m y
  | [], m, y, _ => rfl
  | (k, v) :: r, m, y, nd => by
    rw [List.map_cons, List.nodup_cons] at nd
    show cont r (fun y => if y = k then some v else m y) y = _
    rw [cont_look r _ y nd.2]
    by_cases h : y = k
    · subst h
      have e : r.lookup y = none := List.lookup_eq_none_iff.mpr fun p hp => by
        have : p.1 ≠ y := fun z => nd.1 (List.mem_map.mpr ⟨p, hp, z⟩)
        simpa using fun z : y = p.1 => this z.symm
      rw [e]
      simp [List.lookup]
    · have e : (y == k) = false := by simpa using h
      simp only [List.lookup, e]
      cases r.lookup y with
      | none => exact if_neg h
      | some u => rfl
theorem vals_look : ∀ {fs : List Str} {vs : List V} {us : List Value} (f : Str), Vals vs us → RelO ((fs.zip vs).lookup f) ((fs.zip us).lookup f)
  | [], _, _, _, _ => by simp [List.lookup, RelO]
  | _ :: _, _, _, _, .nil => by simp [List.lookup, RelO]
  | k :: fs, _, _, f, .cons r t => by
    simp only [List.zip_cons_cons, List.lookup]
    cases h : f == k with
    | true => exact r
    | false => exact vals_look f t
theorem zip_fst : ∀ {fs : List Str} {us : List Value}, us.length = fs.length → (fs.zip us).map Prod.fst = fs
  | [], _, _ => rfl
  | k :: fs, [], h => by cases h
  | k :: fs, u :: us, h => by
    rw [List.zip_cons_cons, List.map_cons, zip_fst (by simpa using h)]
section
variable {X : Cx} {C fI : Addr} {fs : List Str}
def tMkX (C : Addr) (fs : List Str) (t : TA) : L2.St → Hp → XK → Prop := fun σ H Q => t σ H fun vs H1 => vs.length = fs.length ∧ ∀ dd, H1 dd = none → Q (.ref C) (some dd) (upd H1 dd (.xd (fs.zip vs)))
theorem pmk_x {e : Expr} {es : List Expr} {t : TA} {p pos : Pos} {k : Nat} {name : Str} (T : XTxt X.prog X.K X.mg C fI name fs) (hr : Room k X.A) (hg : Gl X name) (hn : nmOk name = true) (ha : PA X (e :: es) t) (hp : plainsB (e :: es) = true) :
    PMk X (.Call (.Name name p) (e :: es) [] pos) (tMkX C fs t) := by
  intro pins s σ H Q I h
  refine wpAny_Call_Name_kw (ld_glob I hg T.gC ?_ (nm1 hn))
  refine callWith_K (h₀ := X.base) I.ok.mod.kin T.kC (thn (ha.run pos pins s σ H _ I h) fun us s1 hh => ?_) (star_of (plains_of hp).1) (noStar (plains_of hp).2)
  obtain ⟨vs, H1, I1, rv, hl, q⟩ := hh
  refine ⟨I1.kIn, ?_⟩
  show wpAny _ _ (call (.ref C) us) _ _ _
  have hlim := I1.nolimit
  have G : s1.heap.Ns mainGlobals X.mg := I1.mod.glob.keeps I1.bk
  have Bn : ∃ mb, s1.heap.Ns builtinsNs mb ∧ ∀ y : Str, y ≠ "__name__" → mb y = bootBuiltins y := by
    obtain ⟨mb, h1, h2⟩ := I1.mod.blt
    exact ⟨mb, h1.keeps I1.bk, h2⟩
  have hlu : us.length = fs.length := by rw [← rv.length]; exact hl
  obtain ⟨hp', g, dr, tk, os⟩ := s1
  refine wpAny_call (own_made T hlu I1.kIn G Bn hlim (by have := hr.dp; omega) fun h' tk' e' dx M => ?_)
  show MkP X pins σ Q (.ref e') ⟨h', g, dr, tk', os⟩
  obtain ⟨oe, fv, hoe, hc, hd, hdat, h1⟩ := M.obj
  obtain ⟨G', g1, g2⟩ := restrict h' fun b => decide (b ≠ e')
  have same' : ∀ b, b ≠ e' → G'.get? b = h'.get? b := fun b hb => g1 b (decide_eq_true hb)
  have gone : G'.get? e' = none := g2 e' (by simp)
  have old : ∀ b o, hp'.get? b = some o → G'.get? b = some o := fun b o z => (same' b (Nat.ne_of_lt (Nat.lt_of_lt_of_le (Heap.lt_size z) M.new))).trans (M.keep b o z)
  have nd : ((fs.zip us).map Prod.fst).Nodup := by rw [zip_fst hlu]; exact (List.nodup_cons.mp T.nd).2
  have ob : ObjOk X.prog X.w (upd H1 dx (.xd (fs.zip vs))) G' dx (.xd (fs.zip vs)) :=
    ⟨_, M.ns.at (fun o z => (same' dx M.dne).trans z), fun f => by
      rw [cont_look _ _ f nd]
      have := vals_look (fs := fs) f rv
      cases e1 : (fs.zip us).lookup f <;> rw [e1] at this <;> exact this⟩
  have J : Inv X pins σ (upd H1 dx (.xd (fs.zip vs))) ⟨G', g, dr, tk', os⟩ := I1.laid (t' := tk') old M.dbig ob
  refine ⟨e', oe, fv, ⟨G', g, dr, tk', os⟩, _, .ref C, some dx, rfl, J, fun b o z => ?_, gone, hoe, ⟨hc, hd⟩, hdat, h1, ?_, rfl, I1.bare, raises_own T.exC T.tyC, q dx (I1.hok.fresh M.dbig)⟩
  · by_cases hb : b = e'
    · have z' : G'.get? b = some o := z
      rw [hb, gone] at z'; cases z'
    · exact (same' b hb).symm.trans z
  · rw [upd_ne (Ne.symm M.dne)]
    exact I1.hok.fresh M.new
theorem raise_of {Cl : Cls} {c : Nat} {W : WX} {Fs : Ev → Rs (List P)} {e : Expr} {es : List Expr} {p pos pos2 : Pos} {k : Nat} {name : Str} (hc : X.calm = true) (T : XTxt X.prog X.K X.mg (Cl.ca c) fI name (Cl.cf c)) (hr : Room k X.A) (tk : Takes X W) (hg : Gl X name) (hn : nmOk name = true)
    (ha : PA X (e :: es) (tLv Cl X.K W Fs)) (hp : plainsB (e :: es) = true) (hok : Cl.ok c = true) (hl : ∀ ρ xs, Fs ρ = .ok xs → xs.length = (Cl.cf c).length) :
    PS X (.Raise (some (.Call (.Name name p) (e :: es) [] pos)) none pos2) (tSv Cl X.K W fun ρ => (Fs ρ).bind fun xs => .exc ⟨c, xs⟩) :=
  ps_imp (ps_raise hc tk (pmk_x T hr hg hn ha hp)) fun D σ H ⟨Z, ρ, O, er, h⟩ => ⟨Z, ρ, O, er, tL_bindO h fun xs vs H1 e s r h1 => ⟨by rw [r.length]; exact hl ρ xs e, fun dd hdd => by
    have er1 := er.same s
    exact h1 _ _ σ _ O (.same (same_upd hdd)) ⟨rfl, hok, dd, vs, rfl, er1.fresh hdd, upd_same, by rw [r.length]; exact hl ρ xs e, r.same (same_upd hdd)⟩⟩⟩
end
end PL
end

section
set_option Elab.async false
set_option linter.all false
set_option maxRecDepth 100000
set_option maxHeartbeats 4000000
/-! PLTry: try .. except C as e: return (..) except D as e: .. -/
namespace PL
open PySem PySem.Spec
open PyProof.Rows
open L2 hiding start
abbrev Hd := Value × Nat × (Addr → Value → Option Addr → TS)
/-- a suite's ends: the clause's name is gone behind it -/
def offN (i : Nat) (D : Ends) : Ends := { nx := fun σ' H' => D.nx (σ'.set i none) H', rt := D.rt, bk := fun σ' H' => D.bk (σ'.set i none) H', ct := fun σ' H' => D.ct (σ'.set i none) H' }
def wA (K : Frg) (Wout : WX) (D : Ends) : List Hd → WX
  | [] => Wout
  | (c, i, ts) :: r => fun cls d σ H => ∃ b, PySem.W.exmOne K cls c = some b ∧ (b = true → ∀ a, H a = none → i < σ.length → ts a cls d (offN i D) (σ.set i (some (.ref a))) H) ∧ (b = false → wA K Wout D r cls d σ H)
inductive HdA (X : Cx) : List ExceptHandler → List Hd → Prop
  | nil : HdA X [] []
  | cons {x n : Str} {c : Value} {i : Nat} {ts : Addr → Value → Option Addr → TS} {b₀ : Stmt} {suite : List Stmt} {np pos' : Pos} {hds : List ExceptHandler} {l : List Hd} (hc : Names X x c) (hi : X.N[i]? = some n) (hln : X.env.kindOf n = some .local)
      (hsu : ∀ (a : Addr) (oe : Obj) (cls : Value) (d : Option Addr) (pn : List (Addr × Obj)), Zc cls d oe → (∃ vs, oe.data = .fields vs) → PSs (X.suite a ((a, oe) :: pn)) (b₀ :: suite) (ts a cls d)) (r : HdA X hds l) :
      HdA X (.ExceptHandler (some (.Name x np)) (some n) (b₀ :: suite) pos' :: hds) ((c, i, ts) :: l)
section
variable {X : Cx} {body : List Stmt} {h₀ : ExceptHandler} {hds : List ExceptHandler} {l : List Hd} {pos : Pos} {tb : WX → TS} {Wout : WX}
theorem try_manyA (hst : X.stack = X.env :: X.outer) (hfm : X.env.frame = some X.env.locals) (hN : X.N.Nodup) (tk : Takes X Wout)
    (hb : ∀ (W : WX) (pn : List (Addr × Obj)) (xe : Value → Shared → Prop), Takes (X.tr pn xe) W → PassesOwn (model X.prog X.w) X.A X.env xe → PSs (X.tr pn xe) body (tb W))
    (hh : HdA X (h₀ :: hds) l) : PS X (.Try body (h₀ :: hds) [] [] pos) (fun D σ H => tb (wA X.K Wout D l) D σ H) := by
  refine ⟨fun pins s σ H D I hw => ?_⟩
  have ok := I.ok
  have hA : X.A.frames = some (X.env :: X.outer) := ok.frames.trans (congrArg some hst)
  refine wpAny_Try_except ?_
  have caught : ∀ u s', XE (X.tr (X.pn ++ pins) (fun e s₁ => wpAny (model X.prog X.w) X.A (noteFrame e X.env) (fun _ s₂ => wpAny (model X.prog X.w) X.A (setFlight e none) (fun _ s₃ => wpAny (model X.prog X.w) X.A (handleBy e X.env (h₀ :: hds)) (SP X pins D) X.xe s₃) X.xe s₂) X.xe s₁)) (wA X.K Wout D l) u s' →
      wpAny (model X.prog X.w) X.A (noteFrame u X.env) (fun _ s₂ => wpAny (model X.prog X.w) X.A (setFlight u none) (fun _ s₃ => wpAny (model X.prog X.w) X.A (handleBy u X.env (h₀ :: hds)) (SP X pins D) X.xe s₃) X.xe s₂) X.xe s' := by
    rintro u s' ⟨a, B, sI, pins', σ1, H1, cls, d, rfl, J0, nb, up, sky, na, os, ag, w0⟩
    have J : Inv X pins σ1 H1 sI := J0.ofTry ok
    have sky1 : Sky B (X.env :: X.outer) a (Zc cls d) X.env.locals s'.heap := by rw [← hst]; exact sky
    refine Sky.land Zc.steady hA hfm sky1 fun h3 fl3 up3 => ?_
    have J3 : Inv X pins σ1 H1 { s' with heap := h3 } := J.landed nb fl3.1 (up.trans up3) os ag
    obtain ⟨oe3, vs3, he3, hz3, hd3⟩ := fl3.there
    have noFrame : a ∉ frs (X.env :: X.outer) := fun hm => by
      obtain ⟨_, o', e', hnf⟩ := fl3.2.2.1.mem hm
      rw [he3] at e'
      cases e'
      exact hnf _ hd3
    have n1 : a ≠ X.env.locals := fun z => noFrame (List.mem_filterMap.mpr ⟨X.env, List.mem_cons_self, by rw [hfm, z]⟩)
    have n2 : a ∉ X.fs := fun hm => by
      obtain ⟨e, he, q⟩ := List.mem_filterMap.mp hm
      exact noFrame (List.mem_filterMap.mpr ⟨e, List.mem_cons_of_mem _ he, q⟩)
    have S3 := J3.suite he3 hd3 na n1 n2
    have each : ∀ {hds' : List ExceptHandler} {l' : List Hd}, HdA X hds' l' → wA X.K Wout D l' cls d σ1 H1 → wpAny (model X.prog X.w) X.A (handleBy (.ref a) X.env hds') (SP X pins D) X.xe { s' with heap := h3 } := by
      intro hds' l' hk
      induction hk with
      | nil =>
        intro wn
        refine wpAny_handleBy_nil ?_
        obtain ⟨_, _, _, oe, vs, Tt, oT, ts', he, hz, hd, h1, hr⟩ := id fl3
        unfold PySem.passOn
        refine wpAny_bind (wpAny_field he hd h1 ?_)
        rw [if_neg (show ¬ ((Value.ref Tt == Value.none) = true) from by simp)]
        have leave : wpAny (model X.prog X.w) X.A (setFlight (.ref a) X.env.frame) (fun _ s4 => wpAny (model X.prog X.w) X.A (throw (.ref a) : Sem Flow) (SP X pins D) X.xe s4) X.xe { s' with heap := h3 } := by
          rw [hfm]
          exact HandSPX.setFlight_upZ fl3 fun h4 hh4 up4 => wpAny_throw (tk _ _ ⟨a, B, sI, pins, σ1, H1, cls, d, rfl, J, nb, (up.trans up3).trans up4, .inr (.inr (by rw [hst]; exact hh4)), na, os, ag, wn⟩)
        first
          | exact wpAny_bind (wpAny_pure (wpAny_bind leave))
          | exact wpAny_bind leave
      | @cons x n c i ts b₀ suite np pos' hds2 l2 hc hi hln hsu r ih =>
        intro wc
        obtain ⟨b, hb1, hyes, hno⟩ := wc
        refine wpAny_handleBy_cons (codeAny_handlers_test ?_) (by intro q; cases q)
        have cl3 : PySem.W.Looks (model X.prog X.w) h3 (typeOf (.ref a)) cls := fun A Q E s k q => wpAny_typeOf_ref (k _ _ he3) (by rw [hz3.1]; exact q)
        have ans := PySem.W.exm_one (M := model X.prog X.w) (J3.kIn) cl3 hb1
        have asked : ∀ {Q : Value → Shared → Prop} {E : Value → Shared → Prop}, Q c { s' with heap := h3 } → wpAny (model X.prog X.w) (X.A.mark (some (.ref a))) (eval (.Name x np) X.env) Q E { s' with heap := h3 } := fun {Q E} q => by
          obtain ⟨hg, hdbg, hm | ⟨hm, hv, hnn⟩⟩ := hc
          · exact ld_glob (X := X.suite a ((a, oe3) :: (X.pn ++ pins))) S3 hg hm q hdbg
          · exact ld_blt (X := X.suite a ((a, oe3) :: (X.pn ++ pins))) S3 hg hm hv q hnn hdbg
        refine asked (ans.here ?_)
        cases b with
        | false =>
          show wpAny _ X.A (handleBy (.ref a) X.env hds2) _ _ _
          exact ih (hno rfl)
        | true =>
          have hlen : i < σ1.length := by
            have h1 := J.len
            have h2 := (List.getElem?_eq_some_iff.mp hi).1
            omega
          refine codeAny_handlers_suite_as (HandSPX.lands_againZ fl3 fun h4 fl4 up4 => ?_)
          have J4 : Inv X pins σ1 H1 { s' with heap := h4 } := J.landed nb fl4.1 ((up.trans up3).trans up4) os ag
          obtain ⟨oe4, vs4, he4, hz4, hd4⟩ := fl4.there
          have S4 := J4.suite he4 hd4 na n1 n2
          refine store_ok (X := X.suite a ((a, oe4) :: (X.pn ++ pins))) (v := .ref a) S4 hN hi (.inl hln) rfl (fun s5 S5 => ?_) (.inr hln)
          refine wpAny_mono ((hsu a oe4 cls d (X.pn ++ pins) hz4 ⟨_, hd4⟩).run [] s5 _ H1 _ S5 (hyes rfl a na hlen)) (fun f s6 hsp => ?_) (fun _ _ z => False.elim z)
          have goes : ∀ {σ6 : L2.St} {H6 : Hp} {Q : Shared → Prop}, Inv (X.suite a ((a, oe4) :: (X.pn ++ pins))) [] σ6 H6 s6 → (∀ s7, Inv X pins (σ6.set i none) H6 s7 → Q s7) →
              wpAny (model X.prog X.w) X.A (do bindName X.env n .none; unbindBehindTheSuite X.env n pos') (fun _ s7 => Q s7) X.xe s6 := fun {σ6 H6 Q} S6 hq => gone_ok (S6.unsuite ok) hN hi hln hq
          cases f with
          | next =>
            obtain ⟨σ6, H6, S6, q6⟩ := hsp
            exact goes S6 fun s7 J7 => ⟨_, _, J7, q6⟩
          | brk =>
            obtain ⟨σ6, H6, S6, q6⟩ := hsp
            exact goes S6 fun s7 J7 => ⟨_, _, J7, q6⟩
          | cont =>
            obtain ⟨σ6, H6, S6, q6⟩ := hsp
            exact goes S6 fun s7 J7 => ⟨_, _, J7, q6⟩
          | ret u =>
            obtain ⟨v6, σ6, H6, S6, r6, q6⟩ := hsp
            exact goes S6 fun s7 J7 => ⟨_, _, _, J7, r6, q6⟩
    exact each hh w0
  refine wpAny_mono ((hb (wA X.K Wout D l) (X.pn ++ pins) _ caught PassesOwn.looking).run [] s σ H D (I.toTry _) hw) (fun f s1 hsp => ?_) (fun e s1 he => he)
  cases f with
  | next =>
    obtain ⟨σ', H', J', q⟩ := hsp
    exact wpAny_execs_nil ⟨σ', H', J'.ofTry ok, q⟩
  | brk =>
    obtain ⟨σ', H', J', q⟩ := hsp
    exact ⟨σ', H', J'.ofTry ok, q⟩
  | cont =>
    obtain ⟨σ', H', J', q⟩ := hsp
    exact ⟨σ', H', J'.ofTry ok, q⟩
  | ret u =>
    obtain ⟨v, σ', H', J', r, q⟩ := hsp
    exact ⟨v, σ', H', J'.ofTry ok, r, q⟩
end

/-! ### what a suite returns -/
mutual
def trH (cf : List Str) (n : Str) : HE → Expr → Bool
  | .c p, .Constant k _ _ => constB p k
  | .fld k, .Attribute (.Name m _) f _ => decide (m = n) && decide (cf[k]? = some f)
  | .tup es, .Tuple vs _ _ => decide (vs.length ≤ big) && (trHs cf n es vs && plainsB vs)
  | _, _ => false
def trHs (cf : List Str) (n : Str) : HEs → List Expr → Bool
  | .nil, [] => true
  | .cons e r, v :: vs => trH cf n e v && trHs cf n r vs
  | _, _ => false
end
theorem zip_at : ∀ {fs : List Str} {vs : List V} {k : Nat} {f : Str} {v : V}, fs.Nodup → fs[k]? = some f → vs[k]? = some v → (fs.zip vs).lookup f = some v
  | [], _, _, _, _, _, h, _ => by simp at h
  | _ :: _, [], _, _, _, _, _, h => by simp at h
  | g :: fs, u :: vs, 0, f, v, _, h1, h2 => by
    simp at h1 h2
    subst h1
    subst h2
    simp [List.lookup]
  | g :: fs, u :: vs, k + 1, f, v, nd, h1, h2 => by
    rw [List.nodup_cons] at nd
    have h1 : fs[k]? = some f := by simpa using h1
    have h2 : vs[k]? = some v := by simpa using h2
    have ne : (f == g) = false := by
      have : f ≠ g := fun z => nd.1 (z ▸ List.mem_of_getElem? h1)
      simpa using this
    simp only [List.zip_cons_cons, List.lookup, ne]
    exact zip_at nd.2 h1 h2
section
variable {C : Cls} {X : Cx} {c i : Nat} {n : Str}
def okR {α : Type} (r : Rs α) (Q : α → Prop) : Prop := match r with
  | .ok p => Q p
  | _ => False
/-- x: the caught one, of class c -/
def tHv (C : Cls) (K : Frg) (c i : Nat) (a : Addr) (cls : Value) (d : Option Addr) (F : Exn → Rs P) : TE := fun σ H Q => σ[i]? = some (some (.ref a)) ∧ ∃ (x : Exn) (B : Addr → Prop), x.c = c ∧ (∀ a, H a = none → ¬ B a) ∧ XRep C K B H x cls d ∧ okR (F x) fun p => ∀ v H', Same H H' → Rep K B H' v p → Q v H'
def tHl (C : Cls) (K : Frg) (c i : Nat) (a : Addr) (cls : Value) (d : Option Addr) (F : Exn → Rs (List P)) : TA := fun σ H Q => σ[i]? = some (some (.ref a)) ∧ ∃ (x : Exn) (B : Addr → Prop), x.c = c ∧ (∀ a, H a = none → ¬ B a) ∧ XRep C K B H x cls d ∧ okR (F x) fun p => ∀ v H', Same H H' → Reps K B H' v p → Q v H'
theorem XRep.same {K : Frg} {B : Addr → Prop} {H H' : Hp} {x : Exn} {cls : Value} {d : Option Addr} (s : Same H H') (r : XRep C K B H x cls d) : XRep C K B H' x cls d := by
  obtain ⟨h1, h0, dd, vs, h2, h3, h4, h5, h6⟩ := r
  exact ⟨h1, h0, dd, vs, h2, h3, s _ _ h4, h5, h6.same s⟩
theorem Keep.none {B : Addr → Prop} {H H' : Hp} (s : Same H H') (f : ∀ a, H a = none → ¬ B a) : ∀ a, H' a = none → ¬ B a := fun a h => f a (none_of s h)
theorem evHs_len {x : Exn} {cf : List Str} : ∀ {es : HEs} {vs : List Expr} {xs : List P}, trHs cf n es vs = true → evHs x es = .ok xs → xs.length = vs.length
  | .nil, vs, xs, h, e => by
    rcases vs with _ | _
    · cases e; rfl
    · cases h
  | .cons a r, vs, xs, h, e => by
    rcases vs with _ | ⟨v, vs⟩
    · cases h
    · obtain ⟨h1, h2⟩ := and_t (show (trH cf n a v && trHs cf n r vs) = true from h)
      obtain ⟨y, e1, e⟩ := Rs.bind_ok_inv (show (evH x a).bind _ = _ from e)
      obtain ⟨ys, e2, e⟩ := Rs.bind_ok_inv e
      cases e
      rw [List.length_cons, List.length_cons, evHs_len h2 e2]
variable {a : Addr} {oe : Obj} {cls : Value} {d : Option Addr} {pn : List (Addr × Obj)} {fI : Addr} {name : Str}
mutual
theorem sndH (T : XTxt X.prog X.K X.mg (C.ca c) fI name (C.cf c)) (hi : X.N[i]? = some n) (hv : X.env.kindOf n = some .local) (hn : nmOk n = true) (hz : Zc cls d oe) (hf : ∃ vs, oe.data = .fields vs) :
    ∀ (e : HE) (ee : Expr), trH (C.cf c) n e ee = true → PE (X.suite a ((a, oe) :: pn)) ee (tHv C X.K c i a cls d fun x => evH x e)
  | .c p, ee, h => by
    cases ee <;> first | (cases h; done) | skip
    rename_i k j pos
    cases p <;> cases k <;> first | (cases h; done) | skip
    · exact pe_imp pe_non fun σ H Q ⟨_, x, B, _, _, _, q⟩ => q _ H (sameR H) .non
    · have e := eq_of_beq (show (_ == _) = true from h)
      subst e
      exact pe_imp pe_bl fun σ H Q ⟨_, x, B, _, _, _, q⟩ => q _ H (sameR H) (.bl _)
    · have e := of_decide_eq_true (show decide (_ = _) = true from h)
      subst e
      exact pe_imp pe_int fun σ H Q ⟨_, x, B, _, _, _, q⟩ => q _ H (sameR H) (.int _)
    · have e := of_decide_eq_true (show decide (_ = _) = true from h)
      subst e
      exact pe_imp pe_str fun σ H Q ⟨_, x, B, _, _, _, q⟩ => q _ H (sameR H) (.str _)
  | .fld k, ee, h => by
    cases ee <;> first | (cases h; done) | skip
    rename_i o f pos
    cases o <;> first | (cases h; done) | skip
    obtain ⟨h1, h2⟩ := and_t h
    have e1 := of_decide_eq_true h1
    have e2 := of_decide_eq_true h2
    subst e1
    refine pe_imp (pe_xf (C := C.ca c) (te := tVar i) ⟨T.ga, T.gg, T.exC, T.hdC⟩ (T.noN f (List.mem_of_getElem? e2)) hz hf (pe_var (X := X.suite a ((a, oe) :: pn)) hi (.inl hv) (nm1 hn) (nm2 hn)) rfl) fun σ H Q ⟨hs, x, B, hc, fr, r, q⟩ => ?_
    obtain ⟨r1, _, dd, vs, r2, r3, r4, r5, r6⟩ := r
    subst hc
    refine ⟨_, hs, rfl, r1, dd, (C.cf x.c).zip vs, ?_⟩
    cases g : x.fs[k]? with
    | none =>
      have q : okR ((match x.fs[k]? with | some v => Rs.ok v | none => .bad)) fun p => ∀ v H', Same H H' → Rep X.K B H' v p → Q v H' := q
      rw [g] at q
      exact q.elim
    | some p =>
      have q : okR ((match x.fs[k]? with | some v => Rs.ok v | none => .bad)) fun p => ∀ v H', Same H H' → Rep X.K B H' v p → Q v H' := q
      rw [g] at q
      obtain ⟨v, hv, rv⟩ := r6.get g
      exact ⟨v, r2, r4, zip_at (List.nodup_cons.mp T.nd).2 e2 hv, q v H (sameR H) rv⟩
  | .tup es, ee, h => by
    cases ee <;> first | (cases h; done) | skip
    rename_i vs k pos
    obtain ⟨h1, h⟩ := and_t h
    obtain ⟨h2, h3⟩ := and_t h
    refine pe_imp (pe_tup (sndHs T hi hv hn hz hf es vs h2 h3)) fun σ H Q ⟨hs, x, B, hc, fr, r, q⟩ => ⟨hs, x, B, hc, fr, r, ?_⟩
    show okR (evHs x es) _
    have q : okR ((evHs x es).bind fun xs => .ok (P.tup xs)) fun p => ∀ v H', Same H H' → Rep X.K B H' v p → Q v H' := q
    cases g : evHs x es with
    | ok xs =>
      rw [g] at q
      intro vs1 H1 s rv
      refine ⟨by rw [big_eq, rv.length, evHs_len h2 g]; exact of_decide_eq_true h1, fun p hp => q _ _ (same_tr s (same_upd hp)) (tupNew (Keep.none s fr) hp rv)⟩
    | exc y => rw [g] at q; exact q
    | bad => rw [g] at q; exact q
theorem sndHs (T : XTxt X.prog X.K X.mg (C.ca c) fI name (C.cf c)) (hi : X.N[i]? = some n) (hv : X.env.kindOf n = some .local) (hn : nmOk n = true) (hz : Zc cls d oe) (hf : ∃ vs, oe.data = .fields vs) :
    ∀ (es : HEs) (vs : List Expr), trHs (C.cf c) n es vs = true → plainsB vs = true → PA (X.suite a ((a, oe) :: pn)) vs (tHl C X.K c i a cls d fun x => evHs x es)
  | .nil, vs, h, _ => by
    rcases vs with _ | _
    · exact pa_imp pa_nil fun σ H Q ⟨_, x, B, _, _, _, q⟩ => q _ H (sameR H) .nil
    · cases h
  | .cons e r, vs, h, hp => by
    rcases vs with _ | ⟨v, vs⟩
    · cases h
    · obtain ⟨h1, h2⟩ := and_t (show (trH (C.cf c) n e v && trHs (C.cf c) n r vs) = true from h)
      refine pa_imp (pa_cons (sndH T hi hv hn hz hf e v h1) (sndHs T hi hv hn hz hf r vs h2 (plains_of hp).2) (star_of (plains_of hp).1)) fun σ H Q ⟨hs, x, B, hc, fr, rr, q⟩ => ⟨hs, x, B, hc, fr, rr, ?_⟩
      show okR (evH x e) _
      have q : okR ((evH x e).bind fun y => (evHs x r).bind fun ys => .ok (y :: ys)) fun p => ∀ v H', Same H H' → Reps X.K B H' v p → Q v H' := q
      cases g : evH x e with
      | ok y =>
        rw [g] at q
        intro v1 H1 s rv
        refine ⟨hs, x, B, hc, Keep.none s fr, rr.same s, ?_⟩
        show okR (evHs x r) _
        have q : okR ((evHs x r).bind fun ys => .ok (y :: ys)) fun p => ∀ v H', Same H H' → Reps X.K B H' v p → Q v H' := q
        cases g2 : evHs x r with
        | ok ys =>
          rw [g2] at q
          exact fun v2 H2 s2 rv2 => q _ _ (same_tr s s2) (.cons (rv.same s2) rv2)
        | exc z => rw [g2] at q; exact q
        | bad => rw [g2] at q; exact q
      | exc z => rw [g] at q; exact q
      | bad => rw [g] at q; exact q
end
end
end PL
end

section
set_option Elab.async false
set_option linter.all false
set_option maxRecDepth 100000
set_option maxHeartbeats 4000000
/-! PLBody: a body of the language, checked against the program's text, does what the text does. -/
namespace PL
open PySem PySem.Spec
open PyProof.Rows
open L2 hiding start
def cmpB : IE → Bool
  | .comp _ _ _ _ _ => true
  | .comp2 _ _ _ _ _ _ _ _ => true
  | _ => false
def newB : IE → Bool
  | .lst _ => true
  | .comp _ _ _ _ _ => true
  | .c (.dic []) => true
  | _ => false
def trHd (T : Tx) (sc : Nms) : IHs → List ExceptHandler → Bool
  | .nil, [] => true
  | .cons c i e r, .ExceptHandler (some (.Name x _)) (some n) [.Return (some ee) _] _ :: hs => T.p.cok c && (decide (T.p.cnm c = x) && (glB sc x && (nmOk x && (decide (T.N[i]? = some n) && (decide (sc.lookup n = some .local) && (nmOk n && (trH (T.p.cf c) n e ee && trHd T sc r hs)))))))
  | _, _ => false
mutual
def trS (T : Tx) (sc : Nms) : IS → Stmt → Bool
  | .set i e, .Assign [.Name x _] ee _ => storB T sc i x && (trE T sc e ee && (cmpB e || !(lcE ee)))
  | .new i e, .Assign [.Name x _] ee _ => storB T sc i x && (trE T sc e ee && (newB e && (cmpB e || !(lcE ee))))
  | .bind t e, .Assign [tg] ee _ => trT T sc t tg && (tupB tg && (!(tupB ee) && trE T sc e ee))
  | .ret e, .Return (some ee) _ => trE T sc e ee
  | .eff e, .Expr ee _ => trE T sc e ee && !(lcE ee)
  | .ite c a b, .If ec as bs _ => trE T sc c ec && (trSs T sc a as && trSs T sc b bs)
  | .for_ t it kill body, .For tg iter bs [] _ => trI T sc tg it iter && (trT T sc t tg && trSs T sc body bs)
  | .whl c kill body, .While ec bs [] _ => trE T sc c ec && trSs T sc body bs
  | .app i e, .Expr (.Call (.Attribute (.Name x _) f ap) [ee] [] cp) _ => decide (f = "append") && (slotB T sc i x && (trE T sc e ee && (plainB ee && (ap.endLine == cp.line))))
  | .ext i e, .Expr (.Call (.Attribute (.Name x _) f ap) [ee] [] cp) _ => decide (f = "extend") && (slotB T sc i x && (trE T sc e ee && (plainB ee && (ap.endLine == cp.line))))
  | .put i k e, .Assign [.Subscript (.Name x _) ek _] ee _ => slotB T sc i x && (trE T sc k ek && (plainB ek && trE T sc e ee))
  | .inc i e, .AugAssign (.Name x _) op ee _ => decide (op = .Add) && (storB T sc i x && trE T sc e ee)
  | .raise c es, .Raise (some (.Call (.Name x _) (e :: r) [] _)) none _ => T.p.cok c && (decide (T.p.cnm c = x) && (glB sc x && (nmOk x && (trEs T sc es (e :: r) && (plainsB (e :: r) && decide ((e :: r).length = (T.p.cf c).length))))))
  | .tryE body hs, .Try bs (h :: r) [] [] _ => trSs T sc body bs && trHd T sc hs (h :: r)
  | .pass, .Pass _ => true
  | _, _ => false
def trSs (T : Tx) (sc : Nms) : ISs → List Stmt → Bool
  | .nil, [] => true
  | .cons (.frz i) r, sts => trSs T sc r sts
  | .cons s r, st :: sts => trS T sc s st && trSs T sc r sts
  | _, _ => false
end
section
variable {T : Tx} {sc : Nms} {C : Cls} {n : Nat}
theorem Bd.tr {X : Cx} (B : Bd T sc C n X) (pn : List (Addr × Obj)) (xe : Value → Shared → Prop) (po : PassesOwn (model X.prog X.w) X.A X.env xe) : Bd T sc C n (X.tr pn xe) :=
  ⟨⟨B.sco.N, B.sco.vis, B.sco.gl, B.sco.st, B.sco.cf⟩, ⟨B.gb.calm, B.gb.nd, B.gb.room, B.gb.no, B.gb.fns, B.gb.gs⟩, B.nm, B.kd, B.st, B.fr, po, ⟨B.xs.cf, B.xs.ok, B.xs.tx, B.xs.ex⟩⟩
mutual
theorem evH_nx (x : Exn) : ∀ e : HE, NX (evH x e)
  | .c p => nx_ok
  | .fld k => by
    unfold evH
    split <;> first | exact nx_ok | exact nx_bad
  | .tup es => nx_bind (evHs_nx x es) fun _ => nx_ok
theorem evHs_nx (x : Exn) : ∀ es : HEs, NX (evHs x es)
  | .nil => nx_ok
  | .cons e r => nx_bind (evH_nx x e) fun _ => nx_bind (evHs_nx x r) fun _ => nx_ok
end
/-- the clauses' suites -/
def hdL (C : Cls) (K : Frg) : IHs → List Hd
  | .nil => []
  | .cons c i e r => (.ref (C.ca c), i, fun a cls d => tRet (tHv C K c i a cls d fun x => evH x e)) :: hdL C K r
def hdOk (p : Pg) : IHs → Prop
  | .nil => True
  | .cons c _ _ r => p.cok c = true ∧ hdOk p r
theorem catch_wA {X : Cx} {W : WX} (B : Xs T.p C X) {Z : Addr → Prop} {O : List Addr} {D : Ends} {H : Hp} {x : Exn} (hZ : ∀ a, Z a → (H a).isSome = true ∧ a ∉ O) : ∀ {hs : IHs}, hdOk T.p hs → tO C X.K Z W (catch_ x hs) O D H →
    ∀ cls d σ' H' O', MvO O H O' H' → XRep C X.K (ZO Z O') H' x cls d → wA X.K W D (hdL C X.K hs) cls d σ' H'
  | .nil, _, h, cls, d, σ', H', O', m, r => h cls d σ' H' O' m r
  | .cons c i e hr, ok, h, cls, d, σ', H', O', m, r => by
    obtain ⟨r1, r0, dd, vs, r2, r3, r4, r5, r6⟩ := id r
    refine ⟨decide (x.c = c), by rw [r1]; exact B.ex x.c c (by rw [← B.ok]; exact r0) ok.1, fun hb a ha hi => ?_, fun hb => ?_⟩
    · have hc := of_decide_eq_true hb
      have h : tO C X.K Z W (if x.c = c then (evH x e).bind fun p => .ok (.rt p) else catch_ x hr) O D H := h
      rw [if_pos hc] at h
      have wk : ∀ a, Z a → ZO Z O' a ∨ H' a = none := fun a ha => .inl (.inl ha)
      refine ⟨List.getElem?_set_self hi, x, Z, hc, fun b hb z => ?_, ⟨r1, r0, dd, vs, r2, fun z => r3 (.inl z), r4, r5, r6.keep (fun _ _ _ h => h) wk⟩, ?_⟩
      · obtain ⟨o, e⟩ := Option.isSome_iff_exists.mp (hZ b z).1
        rw [m.1 b o (hZ b z).2 e] at hb
        cases hb
      · show okR (evH x e) _
        cases g : evH x e with
        | exc y => exact absurd g (evH_nx x e y)
        | bad => rw [g] at h; exact h.elim
        | ok p =>
          rw [g] at h
          exact fun v H'' s rv => h v H'' [] ⟨fun a o na e => s a o (m.1 a o na e), fun _ z => by cases z⟩ (rv.keep (fun _ _ _ h => h) fun a ha => by
            rcases ha with ha | ha
            · exact .inl ha
            · cases ha)
    · have hc := of_decide_eq_false hb
      have h : tO C X.K Z W (if x.c = c then (evH x e).bind fun p => .ok (.rt p) else catch_ x hr) O D H := h
      rw [if_neg hc] at h
      exact catch_wA B hZ ok.2 h cls d σ' H' O' m r
theorem hd_ok {X : Cx} (B : Bd T sc C n X) : ∀ {hs : IHs} {hds : List ExceptHandler}, trHd T sc hs hds = true → HdA X hds (hdL C X.K hs) ∧ hdOk T.p hs
  | .nil, hds, h => by
    rcases hds with _ | _
    · exact ⟨.nil, trivial⟩
    · cases h
  | .cons c i e r, hds, h => by
    rcases hds with _ | ⟨hd, hds⟩
    · cases h
    · cases hd
      rename_i ty nm body pos
      rcases ty with _ | ty <;> first | (cases h; done) | skip
      cases ty <;> first | (cases h; done) | skip
      rcases nm with _ | nm <;> first | (cases h; done) | skip
      rcases body with _ | ⟨st, _ | _⟩ <;> first | (cases h; done) | skip
      all_goals (cases st <;> first | (cases h; done) | skip)
      all_goals (rename_i v _; rcases v with _ | v <;> first | (cases h; done) | skip)
      obtain ⟨h1, h⟩ := and_t h
      obtain ⟨h2, h⟩ := and_t h
      obtain ⟨h3, h⟩ := and_t h
      obtain ⟨h4, h⟩ := and_t h
      obtain ⟨h5, h⟩ := and_t h
      obtain ⟨h6, h⟩ := and_t h
      obtain ⟨h7, h⟩ := and_t h
      obtain ⟨h8, h9⟩ := and_t h
      have e2 := of_decide_eq_true h2
      have e5 := of_decide_eq_true h5
      have e6 := of_decide_eq_true h6
      obtain ⟨fI, Tx⟩ := B.xs.tx c h1
      obtain ⟨q1, q2⟩ := hd_ok B h9
      have hN : X.N[i]? = some nm := by rw [B.sco.N]; exact e5
      have hl : X.env.kindOf nm = some .local := by
        show X.env.scope.names.lookup nm = _
        rw [B.nm]
        exact e6
      refine ⟨.cons ⟨B.sco.gl _ h3, nm1 h4, .inl (by rw [← e2]; exact Tx.gC)⟩ hN hl (fun a oe cls d pn hz hf => ?_) q1, h1, q2⟩
      exact pss_one (ps_ret (sndH Tx hN hl h7 hz hf e v (by rw [B.xs.cf]; exact h8)))
end
end PL
end

section
set_option Elab.async false
set_option linter.all false
set_option maxRecDepth 100000
set_option maxHeartbeats 4000000
/-! PLBody2: .. all of it. -/
namespace PL
open PySem PySem.Spec
open PyProof.Rows
open L2 hiding start
section
variable {T : Tx} {sc : Nms} {C : Cls} {n : Nat} {X : Cx} {W : WX}
def SS (T : Tx) (sc : Nms) (C : Cls) (n : Nat) (s : IS) : Prop := ∀ (X : Cx) (W : WX) (st : Stmt), Bd T sc C n X → Takes X W → trS T sc s st = true → PS X st (tSv C X.K W (ex (gam T n) T.p.G s))
def SSs (T : Tx) (sc : Nms) (C : Cls) (n : Nat) (ss : ISs) : Prop := ∀ (X : Cx) (W : WX) (sts : List Stmt), Bd T sc C n X → Takes X W → trSs T sc ss sts = true → PSs X sts (tSv C X.K W (exs (gam T n) T.p.G ss))
theorem Bd.e (B : Bd T sc C n X) (tk : Takes X W) {e : IE} {ee : Expr} (h : trE T sc e ee = true) : Bo C X W ee (ev (gam T n) T.p.G e) := sndE e X sc W ee B.sco B.gb tk h
theorem Bd.es (B : Bd T sc C n X) (tk : Takes X W) {es : IEs} {vs : List Expr} (h : trEs T sc es vs = true) (hp : plainsB vs = true) : PA X vs (tLv C X.K W (evs (gam T n) T.p.G es)) := (sndEs es X sc W vs B.sco B.gb tk h).1 hp
theorem nlc {b : Bool} (h : (!b) = true) : b = false := by cases b <;> first | rfl | cases h
theorem ev_comp {Γ : Nat → List P → Rs P} {G : Nat → P} {e : IE} {t : Tg} {own : List Nat} {it : II} {c : IEo} {ρ : Ev} :
    ev Γ G (.comp e t own it c) ρ = ((evi Γ G it ρ).bind fun xs => compP (fun x => stepP (fun ρ => bindT t x (wipeS own ρ)) (evc Γ G c) (ev Γ G e) ρ) xs).bind fun ys => .ok (.lst ys) := by
  show ((evi Γ G it ρ).bind fun xs => (compP (fun x => stepP (fun ρ => bindT t x (wipeS own ρ)) (evc Γ G c) (ev Γ G e) ρ) xs).bind fun ys => .ok (P.lst ys)) = _
  cases evi Γ G it ρ <;> rfl
theorem tN_of2 {F : Ev → Rs (List P)} {Fe : Ev → Rs P} (hF : ∀ ρ, Fe ρ = (F ρ).bind fun ys => .ok (.lst ys)) {σ : L2.St} {H : Hp} {Q : VK} (h : tEv C X.K W Fe σ H Q) : tNv C X.K W F σ H Q := by
  refine tN_of ?_
  rw [show (fun ρ => (F ρ).bind fun ys => .ok (P.lst ys)) = Fe from (funext hF).symm]
  exact h
theorem ss_set (i : Nat) (e : IE) : SS T sc C n (.set i e) := by
  intro X W st B tk h
  cases st <;> first | (cases h; done) | skip
  rename_i ts ee pos
  rcases ts with _ | ⟨tg, _ | _⟩ <;> first | (cases h; done) | skip
  all_goals (cases tg <;> first | (cases h; done) | skip)
  obtain ⟨h1, h⟩ := and_t h
  obtain ⟨h2, h3⟩ := and_t h
  by_cases hc : lcE ee = true
  · rw [hc, Bool.or_comm] at h3
    have hcm : cmpB e = true := h3
    cases e <;> first | (cases hcm; done) | skip
    · obtain ⟨te, p1, p2⟩ := asg_comp B tk h2 h1
      exact set_of p1 fun σ H Q hh => p2 σ H Q (tN_of2 (fun ρ => ev_comp) hh)
    · obtain ⟨te, p1, p2⟩ := asg_comp2 B tk h2 h1
      exact set_of p1 p2
  · have hc : lcE ee = false := by simpa using hc
    exact set_of (asg_no B hc h1 (B.e tk h2).1) fun σ H Q hh => hh
theorem ss_new (i : Nat) (e : IE) : SS T sc C n (.new i e) := by
  intro X W st B tk h
  cases st <;> first | (cases h; done) | skip
  rename_i ts ee pos
  rcases ts with _ | ⟨tg, _ | _⟩ <;> first | (cases h; done) | skip
  all_goals (cases tg <;> first | (cases h; done) | skip)
  obtain ⟨h1, h⟩ := and_t h
  obtain ⟨h2, h⟩ := and_t h
  obtain ⟨h3, h4⟩ := and_t h
  have h3 : newB e = true := h3
  clear h
  rcases e with _ | p | _ | _ | _ | _ | _ | _ | _ | _ | _ | _ | _ | _ | _ | _ | _ | _ | _ | _ | _ | _ | _
  all_goals first | (cases h3; done) | skip
  · have hp : p = .dic [] := by
      unfold newB at h3
      split at h3
      · rename_i q; cases q
      · rename_i q; cases q
      · rename_i q; injection q
      · cases h3
    subst hp
    rcases inv_c h2 with ⟨k, j, q, rfl, hk⟩ | ⟨q, rfl, _⟩
    · cases k <;> cases hk
    · exact newd_of (asg_no B rfl h1 pe_dnewT) fun ρ => rfl
  · rename_i es
    obtain ⟨vs, q, rfl, k1, k2, k3⟩ := inv_lst h2
    exact new_of (asg_no B rfl h1 (lstN (B.es tk k2 k3) fun ρ xs e => by rw [evs_len k2 e]; exact k1)) (fun σ H Q hh => hh) fun ρ => rfl
  · obtain ⟨te, p1, p2⟩ := asg_comp B tk h2 h1
    exact new_of p1 p2 fun ρ => ev_comp
theorem ss_try {body : ISs} {hs : IHs} (ib : SSs T sc C n body) : SS T sc C n (.tryE body hs) := by
  intro X W st B tk h
  cases st <;> first | (cases h; done) | skip
  rename_i bs hds oe fb pos
  rcases hds with _ | ⟨hd, hds⟩ <;> rcases oe with _ | _ <;> rcases fb with _ | _ <;> first | (cases h; done) | skip
  obtain ⟨h1, h2⟩ := and_t h
  obtain ⟨q1, q2⟩ := hd_ok B h2
  refine ps_imp (try_manyA (tb := fun W' => tSv C X.K W' (exs (gam T n) T.p.G body)) B.st B.fr B.gb.nd tk (fun W' pn xe tk' po => ib (X.tr pn xe) W' bs (B.tr pn xe po) tk' h1) q1) fun D σ H ⟨Z, ρ, O, er, hh⟩ => ⟨Z, ρ, O, er, ?_⟩
  have hh : tO C X.K Z W (match exs (gam T n) T.p.G body ρ with | .exc x => catch_ x hs | r => r) O D H := hh
  cases g : exs (gam T n) T.p.G body ρ with
  | ok o =>
    rw [g] at hh
    cases o <;> exact hh
  | bad => rw [g] at hh; exact hh
  | exc x =>
    rw [g] at hh
    exact fun cls d σ' H' O' m r => catch_wA B.xs (fun a ha => ⟨er.zz a ha, fun hO => (er.own a hO).2 ha⟩) q2 hh cls d σ' H' O' m r
mutual
theorem sndS : ∀ s : IS, SS T sc C n s
  | .set i e => ss_set i e
  | .new i e => ss_new i e
  | .bind t e => fun X W st B tk h => by
    cases st <;> first | (cases h; done) | skip
    rename_i ts ee pos
    rcases ts with _ | ⟨tg, _ | _⟩ <;> first | (cases h; done) | skip
    obtain ⟨h1, h⟩ := and_t h
    obtain ⟨h2, h⟩ := and_t h
    obtain ⟨h3, h4⟩ := and_t h
    exact bind_of B h1 h2 (nlc h3) (B.e tk h4).1
  | .ret e => fun X W st B tk h => by
    cases st <;> first | (cases h; done) | skip
    rename_i v pos
    rcases v with _ | v <;> first | (cases h; done) | skip
    exact ret_of (B.e tk h).1
  | .eff e => fun X W st B tk h => by
    cases st <;> first | (cases h; done) | skip
    obtain ⟨h1, h2⟩ := and_t h
    exact eff_of (nlc h2) (B.e tk h1).1
  | .ite c a b => fun X W st B tk h => by
    cases st <;> first | (cases h; done) | skip
    obtain ⟨h1, h⟩ := and_t h
    obtain ⟨h2, h3⟩ := and_t h
    exact ite_of (B.e tk h1).2 (sndSs a X W _ B tk h2) (sndSs b X W _ B tk h3)
  | .for_ t it kill body => fun X W st B tk h => by
    cases st <;> first | (cases h; done) | skip
    rename_i tg iter bs oe pos
    rcases oe with _ | _ <;> first | (cases h; done) | skip
    obtain ⟨h1, h⟩ := and_t h
    obtain ⟨h2, h3⟩ := and_t h
    exact for_of B h2 (trI_plain h1) ((sndI it X sc W tg iter B.sco B.gb tk).1 h1) (sndSs body X W bs B tk h3)
  | .whl c kill body => fun X W st B tk h => by
    cases st <;> first | (cases h; done) | skip
    rename_i ec bs oe pos
    rcases oe with _ | _ <;> first | (cases h; done) | skip
    obtain ⟨h1, h2⟩ := and_t h
    exact whl_of B (B.e tk h1).2 (sndSs body X W bs B tk h2)
  | .app i e => fun X W st B tk h => by
    cases st <;> first | (cases h; done) | skip
    rename_i ee pos
    cases ee <;> first | (cases h; done) | skip
    rename_i f as ks cp
    cases f <;> first | (cases h; done) | skip
    rename_i o f ap
    cases o <;> first | (cases h; done) | skip
    rcases as with _ | ⟨a, _ | _⟩ <;> rcases ks with _ | _ <;> first | (cases h; done) | skip
    obtain ⟨h1, h⟩ := and_t h
    obtain ⟨h2, h⟩ := and_t h
    obtain ⟨h3, h⟩ := and_t h
    obtain ⟨h4, h5⟩ := and_t h
    have e1 := of_decide_eq_true h1
    subst e1
    exact app_of B h2 h4 h5 (B.e tk h3).1
  | .ext i e => fun X W st B tk h => by
    cases st <;> first | (cases h; done) | skip
    rename_i ee pos
    cases ee <;> first | (cases h; done) | skip
    rename_i f as ks cp
    cases f <;> first | (cases h; done) | skip
    rename_i o f ap
    cases o <;> first | (cases h; done) | skip
    rcases as with _ | ⟨a, _ | _⟩ <;> rcases ks with _ | _ <;> first | (cases h; done) | skip
    obtain ⟨h1, h⟩ := and_t h
    obtain ⟨h2, h⟩ := and_t h
    obtain ⟨h3, h⟩ := and_t h
    obtain ⟨h4, h5⟩ := and_t h
    have e1 := of_decide_eq_true h1
    subst e1
    exact ext_of B h2 h4 h5 (B.e tk h3).1
  | .put i k e => fun X W st B tk h => by
    cases st <;> first | (cases h; done) | skip
    rename_i ts ee pos
    rcases ts with _ | ⟨tg, _ | _⟩ <;> first | (cases h; done) | skip
    all_goals (cases tg <;> first | (cases h; done) | skip)
    all_goals (rename_i o ek sp; cases o <;> first | (cases h; done) | skip)
    obtain ⟨h1, h⟩ := and_t h
    obtain ⟨h2, h⟩ := and_t h
    obtain ⟨h3, h4⟩ := and_t h
    exact put_of B h1 h3 (B.e tk h4).1 (B.e tk h2).1
  | .inc i e => fun X W st B tk h => by
    cases st <;> first | (cases h; done) | skip
    rename_i tg op ee pos
    cases tg <;> first | (cases h; done) | skip
    obtain ⟨h1, h⟩ := and_t h
    obtain ⟨h2, h3⟩ := and_t h
    have e1 := of_decide_eq_true h1
    subst e1
    exact inc_of B h2 (B.e tk h3).1
  | .raise c es => fun X W st B tk h => by
    cases st <;> first | (cases h; done) | skip
    rename_i ex cause pos
    rcases ex with _ | ex
    · rcases cause with _ | _ <;> cases h
    rcases cause with _ | _
    case some => cases ex <;> first | (cases h; done) | (rename_i f as ks _; cases f <;> first | (cases h; done) | (rcases as with _ | _ <;> rcases ks with _ | _ <;> cases h))
    cases ex <;> first | (cases h; done) | skip
    rename_i f as ks cp
    cases f <;> first | (cases h; done) | skip
    rcases as with _ | ⟨a, as⟩ <;> rcases ks with _ | _ <;> first | (cases h; done) | skip
    obtain ⟨h1, h⟩ := and_t h
    obtain ⟨h2, h⟩ := and_t h
    obtain ⟨h3, h⟩ := and_t h
    obtain ⟨h4, h⟩ := and_t h
    obtain ⟨h5, h⟩ := and_t h
    obtain ⟨h6, h7⟩ := and_t h
    have e2 := of_decide_eq_true h2
    have e7 := of_decide_eq_true h7
    obtain ⟨fI, Tx⟩ := B.xs.tx c h1
    rw [e2] at Tx
    exact raise_of B.gb.calm Tx B.gb.room tk (B.sco.gl _ h3) h4 (B.es tk h5 h6) h6 (by rw [B.xs.ok]; exact h1) fun ρ xs e => by rw [evs_len h5 e, e7, B.xs.cf]
  | .frz i => fun X W st B tk h => by cases st <;> cases h
  | .tryE body hs => ss_try (sndSs body)
  | .pass => fun X W st B tk h => by
    cases st <;> first | (cases h; done) | skip
    exact ps_imp ps_pass fun D σ H ⟨Z, ρ, O, er, hh⟩ => hh σ H O er .rfl'
theorem sndSs : ∀ ss : ISs, SSs T sc C n ss
  | .nil => fun X W sts B tk h => by
    rcases sts with _ | _
    · exact pss_imp pss_nil fun D σ H ⟨Z, ρ, O, er, hh⟩ => hh σ H O er .rfl'
    · cases h
  | .cons s r => fun X W sts B tk h => by
    by_cases hf : ∃ i, s = .frz i
    · obtain ⟨i, rfl⟩ := hf
      have h' : trSs T sc r sts = true := by cases sts <;> exact h
      refine pss_imp (sndSs r X W sts B tk h') fun D σ H ⟨Z, ρ, O, er, hh⟩ => ?_
      obtain ⟨O', er', m⟩ := er.frz i
      exact ⟨Z, frzS ρ i, O', er', tO.mv m hh⟩
    · rcases sts with _ | ⟨st, sts⟩
      · cases s <;> first | (cases h; done) | exact absurd ⟨_, rfl⟩ hf
      · have h' : (trS T sc s st && trSs T sc r sts) = true := by
          cases s <;> first | exact h | exact absurd ⟨_, rfl⟩ hf
        obtain ⟨h1, h2⟩ := and_t h'
        refine pss_imp (pss_cons (sndS s X W st B tk h1) (sndSs r X W sts B tk h2)) fun D σ H ⟨Z, ρ, O, er, hh⟩ => ⟨Z, ρ, O, er, ?_⟩
        exact tO_seq hh
end
end
end PL
end

section
set_option Elab.async false
set_option linter.all false
set_option maxRecDepth 100000
set_option maxHeartbeats 4000000
/-! PLFn: every def of a program keeps the promise that the language tells. -/
namespace PL
open PySem PySem.Spec
open PyProof.Rows
open L2 hiding start
/-- a def of the program's text: its name, its slots' names, its parameters, its statement -/
structure DefP where
  name : Str
  N : List Str
  ps : List Str
  st : Stmt
def scopeB (N ps : List Str) (sc : Scope) : Bool :=
  decide (sc.kind = .function) && (decide (sc.isCoroutine = false) && (decide (sc.isGenerator = false) && (decide N.Nodup && (decide (N.take ps.length = ps) && ((ps.all fun x => decide (sc.names.lookup x = some .local) || decide (sc.names.lookup x = some .cell)) && sc.names.all fun y => decide (y.2 ≠ .free))))))
theorem scope_ok {N ps : List Str} {sc : Scope} (h : scopeB N ps sc = true) : FnScope N ps sc := by
  unfold scopeB at h
  obtain ⟨h1, h⟩ := and_t h
  obtain ⟨h2, h⟩ := and_t h
  obtain ⟨h3, h⟩ := and_t h
  obtain ⟨h4, h⟩ := and_t h
  obtain ⟨h5, h⟩ := and_t h
  obtain ⟨h6, h7⟩ := and_t h
  refine ⟨of_decide_eq_true h1, of_decide_eq_true h2, of_decide_eq_true h3, of_decide_eq_true h4, of_decide_eq_true h5, fun x hx => ?_, fun y hy => of_decide_eq_true (List.all_eq_true.mp h7 y hy)⟩
  have := List.all_eq_true.mp h6 x hx
  rw [Bool.or_eq_true] at this
  rcases this with q | q
  · exact .inl (of_decide_eq_true q)
  · exact .inr (of_decide_eq_true q)
/-- the language's def against the text's -/
def okF (p : Pg) (dp : DefP) (d : Fn) : Bool :=
  scopeB dp.N dp.ps (defScope dp.st) && (decide (d.n = dp.N.length) && (decide (d.ps = dp.ps.length) && trSs ⟨dp.N, p⟩ (defScope dp.st).names d.body (defBody dp.st)))
theorem starts {K : Frg} {Z : Addr → Prop} {H : Hp} {N : List Str} {d : Fn} {vs : List V} {ps : List P} (hz : ∀ a, Z a → (H a).isSome = true) (r : Reps K Z H vs ps) (hn : d.n = N.length) (hl : ps.length ≤ d.n) : EnvRep K Z [] H (L2.start N vs) (PL.start d ps) := by
  have hlen : vs.length = ps.length := r.length
  have wk : ∀ a, ZO Z [] a → Z a ∨ H a = none := fun a h => by
    rcases h with h | h
    · exact .inl h
    · cases h
  refine ⟨?_, fun i s h => ?_, fun i j s t a h1 h2 o1 o2 h3 h4 => ?_, fun a h => by (cases h), hz⟩
  · unfold L2.start PL.start
    rw [List.length_append, List.length_append, List.length_map, List.length_map, List.length_replicate, List.length_replicate, hlen, hn]
  · unfold PL.start at h
    unfold L2.start
    by_cases hi : i < ps.length
    · rw [List.getElem?_append_left (by rw [List.length_map]; exact hi), List.getElem?_map] at h
      rw [List.getElem?_append_left (by rw [List.length_map, hlen]; exact hi), List.getElem?_map]
      cases e : ps[i]? with
      | none => rw [e] at h; cases h
      | some p =>
        rw [e] at h
        cases h
        obtain ⟨v, e1, rv⟩ := r.get e
        exact ⟨some v, by rw [e1]; rfl, .fz (rv.keep (fun _ _ _ h => h) wk)⟩
    · rw [List.getElem?_append_right (by rw [List.length_map]; omega), List.length_map] at h
      rw [List.getElem?_append_right (by rw [List.length_map]; omega), List.length_map, hlen]
      rw [List.getElem?_replicate] at h ⊢
      rw [← hn]
      split at h
      · rename_i q
        cases h
        rw [if_pos q]
        exact ⟨none, rfl, .un⟩
      · cases h
  · exfalso
    unfold PL.start at h1
    by_cases hi : i < ps.length
    · rw [List.getElem?_append_left (by rw [List.length_map]; exact hi), List.getElem?_map] at h1
      cases e : ps[i]? with
      | none => rw [e] at h1; cases h1
      | some p => rw [e] at h1; cases h1; cases o1
    · rw [List.getElem?_append_right (by rw [List.length_map]; omega), List.getElem?_replicate] at h1
      split at h1
      · cases h1; cases o1
      · cases h1
section
variable {P : Program} {w : World} {K : Frg} {mg : Str → Option Value} {base : Heap} {p : Pg} {C : Cls}
/-- FnAt without a context -/
def FnK (P : Program) (w : World) (K : Frg) (mg : Str → Option Value) (base : Heap) (p : Pg) (C : Cls) (n f : Nat) : Prop :=
  ∃ (fa : Addr) (fd : FuncData) (ps : List Str), mg (p.fnm f) = some (.ref fa) ∧ PySem.W.keepIn K (.ref fa) = true ∧ Binds K fd ps [] ∧ FnOk P w K mg base (L2.CX P w) n fa fd ps (spOf C K (callF p.D p.G n f))
/-- what the top has written -/
structure TopOk (P : Program) (K : Frg) (mg : Str → Option Value) (p : Pg) (C : Cls) : Prop where
  no : ∀ x ∈ builtinNames, mg x = none
  gs : ∀ k, k < p.ng → ∃ v u, sclV (p.G k) = some v ∧ mg (p.gnm k) = some u ∧ RelV v u
  fns : ∀ f d, p.D f = some d → ∃ (dp : DefP) (fa : Addr) (fd : FuncData), p.fnm f = dp.name ∧ Fun K dp.name dp.name dp.st fa fd ∧ mg dp.name = some (.ref fa) ∧ Binds K fd dp.ps [] ∧ okF p dp d = true
  cf : C.cf = p.cf
  ok : C.ok = p.cok
  tx : ∀ c, p.cok c = true → ∃ fI, XTxt P K mg (C.ca c) fI (p.cnm c) (C.cf c)
  ex : ∀ c c', p.cok c = true → p.cok c' = true → PySem.W.exmOne K (.ref (C.ca c)) (.ref (C.ca c')) = some (decide (c = c'))
theorem fn_at (top : TopOk P K mg p C) {n : Nat} (IH : ∀ f d, p.D f = some d → FnK P w K mg base p C n f) {f : Nat} {d : Fn} (hD : p.D f = some d) {dp : DefP} {fa : Addr} {fd : FuncData} (F : Fun K dp.name dp.name dp.st fa fd) (hok : okF p dp d = true) :
    FnOk P w K mg base (L2.CX P w) (n + 1) fa fd dp.ps (spOf C K (callF p.D p.G (n + 1) f)) := by
  unfold okF at hok
  obtain ⟨k1, hok⟩ := and_t hok
  obtain ⟨k2, hok⟩ := and_t hok
  obtain ⟨k3, k4⟩ := and_t hok
  have k2 := of_decide_eq_true k2
  have k3 := of_decide_eq_true k3
  have S := scope_ok k1
  have e1 : ∀ xs, callF p.D p.G (n + 1) f xs = run (callF p.D p.G n) p.G d xs := fun xs => by
    show (match p.D f with | some d => run (callF p.D p.G n) p.G d xs | none => .bad) = _
    rw [hD]
  have okp : ∀ {ps : List PL.P}, run (callF p.D p.G n) p.G d ps ≠ .bad → ps.length = d.ps ∧ d.ps ≤ d.n := fun {ps} h => by
    unfold run at h
    cases g : (decide (ps.length = d.ps) && decide (d.ps ≤ d.n)) with
    | true =>
      obtain ⟨g1, g2⟩ := and_t g
      exact ⟨of_decide_eq_true g1, of_decide_eq_true g2⟩
    | false => rw [g] at h; exact absurd rfl h
  refine F.okX S (fun vs H Q E h => ?_) (fun cdv A outer s H vs Q E hr h => ?_)
  · obtain ⟨Z, ps, hz, r, hmm⟩ := h
    rw [e1] at hmm
    rw [r.length, ← k3]
    refine (okp fun z => ?_).1
    rw [z] at hmm
    exact hmm
  · obtain ⟨Z, ps, hz, r, hmm⟩ := h
    rw [e1] at hmm
    have hl := okp (ps := ps) fun z => by rw [z] at hmm; exact hmm
    refine ⟨tSv C K (fun cls dd _ H' => E cls dd H') (exs (callF p.D p.G n) p.G d.body), ?_, Z, PL.start d ps, [], starts hz r k2 (by omega), ?_⟩
    · refine sndSs (T := ⟨dp.N, p⟩) (sc := (defScope dp.st).names) (C := C) (n := n) d.body _ _ _ ⟨?_, ⟨rfl, S.nd, hr, top.no, IH, top.gs⟩, rfl, S.kind, rfl, rfl, passes_of rfl, ⟨top.cf, top.ok, top.tx, top.ex⟩⟩ (takes_of rfl rfl rfl rfl) k4
      refine ⟨rfl, fun x hx => ?_, fun x hx => glB_iff hx, fun x hx => ⟨?_, .inl rfl⟩, fun x hx => hx⟩
      · exact visB_iff hx
      · exact locB_iff hx
    · have hmm : match Rs.when (decide (ps.length = d.ps) && decide (d.ps ≤ d.n)) ((exs (callF p.D p.G n) p.G d.body (PL.start d ps)).bind fun o => .ok (fin o)) with
        | .ok p => ∀ v H', Same H H' → Rep K Z H' v p → Q v H'
        | .exc x => ∀ cls dd H', Same H H' → XRep C K Z H' x cls dd → E cls dd H'
        | .bad => False := hmm
      rw [decide_eq_true hl.1, decide_eq_true hl.2] at hmm
      have sm : ∀ {O' : List Addr} {H' : Hp}, MvO [] H O' H' → Same H H' := fun m a o e => m.1 a o (fun z => by cases z) e
      have wk : ∀ {O' : List Addr} {H' : Hp} (a : Addr), Z a → ZO Z O' a ∨ H' a = none := fun a h => .inl (.inl h)
      cases g : exs (callF p.D p.G n) p.G d.body (PL.start d ps) with
      | bad => rw [g] at hmm; exact hmm
      | exc x =>
        rw [g] at hmm
        intro cls dd σ' H' O' m xr
        obtain ⟨x1, x0, dx, vs', x2, x3, x4, x5, x6⟩ := xr
        exact hmm cls dd H' (sm m) ⟨x1, x0, dx, vs', x2, fun z => x3 (.inl z), x4, x5, x6.keep (fun _ _ _ h => h) wk⟩
      | ok o =>
        rw [g] at hmm
        cases o with
        | nx ρ => exact fun σ' H' O' er m => hmm .non H' (sm m) .non
        | rt q => exact fun v H' O' m rv => hmm v H' (sm m) (rv.keep (fun _ _ _ h => h) wk)
theorem fn_one (top : TopOk P K mg p C) {n : Nat} (IH : ∀ f d, p.D f = some d → FnK P w K mg base p C n f) {f : Nat} {d : Fn} (hD : p.D f = some d) : FnK P w K mg base p C (n + 1) f := by
  obtain ⟨dp, fa, fd, hn, F, hm, hb, hok⟩ := top.fns f d hD
  exact ⟨fa, fd, dp.ps, by rw [hn]; exact hm, F.kp, hb, fn_at top IH hD F hok⟩
theorem fn_all (top : TopOk P K mg p C) : ∀ (n f : Nat) (d : Fn), p.D f = some d → FnK P w K mg base p C n f
  | 0, f, d, hD => by
    obtain ⟨dp, fa, fd, hn, F, hm, hb, _⟩ := top.fns f d hD
    have no : ∀ {vs : List V} {H : Hp} {Q : VK} {E : XK}, spOf C K (callF p.D p.G 0 f) vs H Q E → False := fun ⟨_, _, _, _, h⟩ => h
    exact ⟨fa, fd, dp.ps, by rw [hn]; exact hm, F.kp, hb, ⟨fun vs H Q E h => (no h).elim, fun A outer s H args us vs Q E hr he hbb hv h => (no h).elim⟩⟩
  | n + 1, f, d, hD => fn_one top (fun f d h => fn_all top n f d h) hD
end
end PL
end

section
set_option Elab.async false
set_option linter.all false
set_option maxRecDepth 100000
set_option maxHeartbeats 4000000
/-! PLTop: what a program's top leaves, looked at. -/
namespace PL
open PySem PySem.Spec
open PyProof.Rows
open PySem.HandSPX (refsVE)
open He (ga ma eqO eqO_ok FnV FnD fnObs frG frG_in asD relB relB_ok)
open L2 hiding start
/-- an own exception's class: its name, its fields, its __init__ -/
structure ExP where
  name : Str
  fs : List Str
  st : Stmt
/-- the tables of a program -/
structure Tab where
  dps : List DefP
  fns : List Fn
  gls : List (Str × P)
  exs : List (Option ExP)
def Tab.ex (t : Tab) (c : Nat) : Option ExP := (t.exs[c]?).getD none
def Tab.pg (t : Tab) (D : Nat → Option Fn) (G : Nat → P) : Pg where
  fnm f := (t.dps[f]?.map (·.name)).getD (PySem.Str.ofString "")
  gnm k := (t.gls[k]?.map (·.1)).getD (PySem.Str.ofString "")
  cnm c := ((t.ex c).map (·.name)).getD (PySem.Str.ofString "")
  cf c := ((t.ex c).map (·.fs)).getD []
  cok c := (t.ex c).isSome
  ng := t.gls.length
  D := D
  G := G
def clsB (K : Frg) (C : Addr) : Bool := match K.lookup C with
  | some ⟨.type "type", _, .cls cd, sl⟩ => (match cd.mro, sl.toList with
    | .ref C' :: bm, [_, _, _, _, some (.builtin n), _] => decide (C' = C) && (decide (n = "ValueError.__new__") && (!cd.hasDel && (cd.hasDict && refsVE bm)))
    | _, _ => false)
  | _ => false
theorem clsB_ok {K : Frg} {C : Addr} (h : clsB K C = true) : ∃ nm q N bs bm sn sub ab col dd k0 k1 k2 k3 k5, K.lookup C = some (excClassObj nm q C N bs bm true sn sub ab col dd k0 k1 k2 k3 k5 "ValueError.__new__") ∧ refsVE bm = true := by
  unfold clsB at h
  split at h
  · rename_i dd cd sl ho
    split at h
    · rename_i C' bm k0 k1 k2 k3 n k5 hm hs
      obtain ⟨h1, h⟩ := and_t h
      obtain ⟨h2, h⟩ := and_t h
      obtain ⟨h3, h⟩ := and_t h
      obtain ⟨h4, h5⟩ := and_t h
      have g1 := of_decide_eq_true h1
      have g2 := of_decide_eq_true h2
      have g3 := nlc h3
      have g4 := h4
      clear h1 h2 h3 h4 h
      obtain ⟨nm, bs, mro, ns, qn, hd, sn, sub, ab, col, del⟩ := cd
      dsimp only at hm g3 g4
      subst hm g3 g4 g1 g2
      have hsl : sl = #[k0, k1, k2, k3, some (.builtin "ValueError.__new__"), k5] := by
        rw [← Array.toList_inj]
        exact hs
      subst hsl
      exact ⟨_, _, _, _, _, _, _, _, _, _, _, _, _, _, _, ho, h5⟩
    · cases h
  · cases h
abbrev FnY : Type := Option (Str × Str × Arguments × FuncBody × Scope × Addr × List Str × Value × Addr)
def fnY (K : Frg) (x : Str) : FnY := match K.lookup (ma K (ga K x) "__init__") with
  | some ⟨_, _, .func fd, _⟩ => some (fd.name, fd.qualname, fd.params, fd.body, fd.scope, fd.globals, fd.closure.map (·.1), fd.defaults, fd.builtins)
  | _ => none
def ExP.qual (e : ExP) : Str := e.name ++ ".__init__"
def ExP.val (e : ExP) : FnY := some ("__init__", e.qual, defArgs e.st, .stmts (defBody e.st), defScope e.st, mainGlobals, ["__class__"], .none, builtinsNs)
def fileB (P : Program) (vs : Array Value) : Bool := match (vs[(2 : Nat)]? : Option Value) with
  | some (.str file _) => ((P.main.file : Str) == file)
  | _ => false
theorem fileB_ok {P : Program} {vs : Array Value} (h : fileB P vs = true) : ∃ file tf, vs[2]? = some (.str file tf) ∧ ((P.main.file : Str) == file) = true := by
  unfold fileB at h
  split at h
  · exact ⟨_, _, ‹_›, h⟩
  · cases h
/-- the code, the cell -/
def initK2 (P : Program) (K : Frg) (e : ExP) (code : Value) (cl : List (Str × Addr)) : Bool := match code, cl with
  | .ref cda, [(_, cc)] => PySem.W.codeIn K (.ref cda) e.qual && ((match K.lookup cda with
      | some ⟨_, _, .fields vs, _⟩ => fileB P vs
      | _ => false) && (match K.lookup cc with
      | some ⟨_, _, .cell (some (.ref D)), _⟩ => decide (D = ga K e.name)
      | _ => false))
  | _, _ => false
theorem initK2_ok {P : Program} {K : Frg} {e : ExP} {code : Value} {cl : List (Str × Addr)} (h : initK2 P K e code cl = true) : ∃ cda nm cc, code = .ref cda ∧ cl = [(nm, cc)] ∧ PySem.W.codeIn K (.ref cda) e.qual = true ∧
    (∃ ccl cdd vs ccs file tf, K.lookup cda = some ⟨ccl, cdd, .fields vs, ccs⟩ ∧ vs[2]? = some (.str file tf) ∧ ((P.main.file : Str) == file) = true) ∧ (∃ cl cld csl, K.lookup cc = some ⟨cl, cld, .cell (some (.ref (ga K e.name))), csl⟩) := by
  unfold initK2 at h
  split at h
  · obtain ⟨k1, k2⟩ := and_t h
    obtain ⟨k2, k3⟩ := and_t k2
    refine ⟨_, _, _, rfl, rfl, k1, ?_, ?_⟩
    · split at k2
      · rename_i hq
        obtain ⟨file, tf, hv, k2⟩ := fileB_ok k2
        exact ⟨_, _, _, _, _, _, hq, hv, k2⟩
      · cases k2
    · split at k3
      · rename_i hq
        have := of_decide_eq_true k3
        subst this
        exact ⟨_, _, _, hq⟩
      · cases k3
  · cases h
def initK (P : Program) (K : Frg) (e : ExP) : Bool := match K.lookup (ma K (ga K e.name) "__init__") with
  | some ⟨_, _, .func fd, _⟩ => initK2 P K e fd.code fd.closure
  | _ => false
def xB (P : Program) (K : Frg) (e : ExP) : Bool :=
  eqO (PySem.W.nsIn K mainGlobals e.name) (some (some (.ref (ga K e.name)))) && (clsB K (ga K e.name) && (eqO (PySem.W.findIn K (.ref (ga K e.name)) "__setattr__") (some (some (.builtin "object.__setattr__"))) &&
  (eqO (PySem.W.findIn K (.ref (ga K e.name)) "__getattribute__") (some (some (.builtin "BaseException.__getattribute__"))) && (eqO (PySem.W.findIn K (.ref (ga K e.name)) "__getattr__") (some none) && ((e.fs.all fun f => eqO (PySem.W.findIn K (.ref (ga K e.name)) f) (some none)) &&
  (eqO (PySem.W.findIn K (.ref (ga K e.name)) "__init__") (some (some (.ref (ma K (ga K e.name) "__init__")))) && (decide (PySem.W.typeIn K (.ref (ma K (ga K e.name) "__init__")) = some (.type "function")) && (PySem.W.keepIn K (.ref (ga K e.name)) &&
  (decide (PySem.W.subIn K (.ref (ga K e.name)) (.type "BaseException") = some true) && (decide (PySem.W.subIn K (.ref (ga K e.name)) (.type "ValueError") = some true) && (decide (PySem.W.typeIn K (.ref (ga K e.name)) = some (.type "type")) && (PySem.W.hasDictIn K (ga K e.name) &&
  (eqO (PySem.W.ks_superIn K (ga K e.name) (ga K e.name) "__init__") (some (some (.builtin "ValueError.__init__"))) && (decide (PySem.W.mroIn K (ga K e.name) (.ref (ga K e.name)) = some true) && initK P K e))))))))))))))
/-- of the text alone -/
def exB (e : ExP) : Bool := decide (("self" : Str) :: e.fs).Nodup && (!(e.fs.isEmpty) && (decide (e.fs.length ≤ 900) && initB e.fs (defArgs e.st) (defBody e.st) (defScope e.st)))
def XBind (e : ExP) : Prop := ∀ (kV doc pm cdv ct : Value) (an : Option Addr) (cc : Addr) (us : List Value), us.length = e.fs.length + 1 → bindArgs (PySem.W.fnX "__init__" e.qual (defArgs e.st) (defBody e.st) (defScope e.st) [("__class__", cc)] .none kV doc pm an cdv ct) ⟨us, []⟩ = pure ((("self" : Str) :: e.fs).zip us)
theorem x_ok {P : Program} {K : Frg} {h : Heap} {mg : Str → Option Value} {e : ExP} (X : K.In h) (G : h.Ns mainGlobals mg) (hx : xB P K e = true) (hy : fnY K e.name = e.val) (ht : exB e = true) (hb : XBind e)
    (opq : PySem.W.nsIn K cStatics "thirdparty.any" = some none) (sup : mg "super" = none) (top : (P.main.scope.names.lookup ("super" : Str)).isSome = false) : XTxt P K mg (ga K e.name) (ma K (ga K e.name) "__init__") e.name e.fs := by
  unfold xB at hx
  obtain ⟨h1, hx⟩ := and_t hx
  obtain ⟨h2, hx⟩ := and_t hx
  obtain ⟨h3, hx⟩ := and_t hx
  obtain ⟨h4, hx⟩ := and_t hx
  obtain ⟨h5, hx⟩ := and_t hx
  obtain ⟨h6, hx⟩ := and_t hx
  obtain ⟨h7, hx⟩ := and_t hx
  obtain ⟨h8, hx⟩ := and_t hx
  obtain ⟨h9, hx⟩ := and_t hx
  obtain ⟨h10, hx⟩ := and_t hx
  obtain ⟨h11, hx⟩ := and_t hx
  obtain ⟨h12, hx⟩ := and_t hx
  obtain ⟨h13, hx⟩ := and_t hx
  obtain ⟨h14, hx⟩ := and_t hx
  obtain ⟨h15, h16⟩ := and_t hx
  unfold exB at ht
  obtain ⟨t1, ht⟩ := and_t ht
  obtain ⟨t2, ht⟩ := and_t ht
  obtain ⟨t3, t4⟩ := and_t ht
  refine ⟨PySem.W.mg_of X G (eqO_ok h1), clsB_ok h2, eqO_ok h3, eqO_ok h4, eqO_ok h5, fun f hf => eqO_ok (List.all_eq_true.mp h6 f hf), eqO_ok h7, of_decide_eq_true h8, h9, of_decide_eq_true h10, of_decide_eq_true h11, of_decide_eq_true h12, h13, opq, sup, eqO_ok h14, of_decide_eq_true h15, top,
    of_decide_eq_true t1, (fun z => by rw [z] at t2; cases t2), of_decide_eq_true t3, ?_⟩
  unfold initK at h16
  unfold fnY at hy
  cases q : K.lookup (ma K (ga K e.name) "__init__") with
  | none => rw [q] at h16; cases h16
  | some o =>
    obtain ⟨oc, od, dt, osl⟩ := o
    rw [q] at h16 hy
    cases dt with
    | func fd =>
      obtain ⟨n1, n2, n3, n4, n5, n6, n7, n8, n9, n10, n11, n12, n13, n14, n15⟩ := fd
      have e2 : (some (n1, n2, n3, n4, n5, n6, n7.map (·.1), n8, n15) : FnY) = (some ("__init__", e.qual, defArgs e.st, .stmts (defBody e.st), defScope e.st, mainGlobals, ["__class__"], .none, builtinsNs) : FnY) := hy
      simp only [Option.some.injEq, Prod.mk.injEq] at e2
      obtain ⟨g1, g2, g3, g4, g5, g6, g7, g8, g9⟩ := e2
      subst g1 g2 g3 g4 g5 g6 g8 g9
      obtain ⟨cda, nm, cc, w1, w2, w3, w4, w5⟩ := initK2_ok (show initK2 P K e n13 n7 = true from h16)
      subst w1 w2
      have g7 : [nm] = [("__class__" : Str)] := g7
      cases g7
      exact ⟨oc, od, osl, _, _, _, _, _, _, _, _, _, _, cda, cc, rfl, w3, t4, fun us hl => hb _ _ _ _ _ _ _ us hl, w4, w5⟩
    | _ => cases h16
end PL
end

section
set_option Elab.async false
set_option linter.all false
set_option maxRecDepth 100000
set_option maxHeartbeats 4000000
/-! PLEnd: the Hook; a law's end. -/
namespace PL
open PySem PySem.Spec
open PyProof.Rows
open He (ga ma eqO eqO_ok FnV FnD fnObs frG frG_in asD growD relB relB_ok)
open L2 hiding start
def DefP.fnD (d : DefP) : FnD := ⟨(d.name, none), d.name, d.name, defArgs d.st, defBody d.st, defScope d.st⟩
def Tab.xs (t : Tab) : List ExP := t.exs.filterMap id
def glB1 (K : Frg) (x : Str × P) : Bool := match sclV x.2, PySem.W.nsIn K mainGlobals x.1 with
  | some v, some (some u) => relB v u
  | _, _ => false
def defB1 (K : Frg) (d : DefP) : Bool := eqO (PySem.W.nsIn K mainGlobals d.name) (some (some (.ref (ga K d.name)))) && (PySem.W.keepIn K (.ref (ga K d.name)) && (He.Fa.code (d.name, none) d.name).ok K)
/-- what is looked at -/
def Tab.says (t : Tab) (Pr : Program) (K : Frg) : Bool :=
  (builtinNames.all fun x => eqO (PySem.W.nsIn K mainGlobals x) (some none)) && (eqO (PySem.W.nsIn K mainGlobals "super") (some none) && (decide (PySem.W.nsIn K cStatics "thirdparty.any" = some none) &&
  ((t.gls.all fun x => glB1 K x) && ((t.dps.all fun d => defB1 K d) && ((t.xs.all fun e => xB Pr K e) && (t.xs.all fun e => t.xs.all fun e' => decide (PySem.W.exmOne K (.ref (ga K e.name)) (.ref (ga K e'.name)) = some (decide (e.name = e'.name)))))))))
abbrev AlP : Type := Bool × (List FnV × List FnY)
def Tab.obs (t : Tab) (Pr : Program) (K : Frg) : AlP := (t.says Pr K, t.dps.map fun d => fnObs K (d.name, none), t.xs.map fun e => fnY K e.name)
def Tab.val (t : Tab) : AlP := (true, t.dps.map fun d => d.fnD.val, t.xs.map ExP.val)
def asP (g : Addr → Option Obj) : Nat → List Addr
  | 0 => [mainGlobals, cStatics]
  | n + 1 => growD g (asP g n)
def Tab.obG (t : Tab) (Pr : Program) (n : Nat) (g : Addr → Option Obj) : AlP := t.obs Pr (frG g (asP g n))
def Tab.hook (t : Tab) (Pr : Program) (n : Nat) : PySem.W.Hook where
  α := AlP
  obs := fun s => t.obG Pr n s.heap.get?
  val := fun _ => t.val
  says := fun _ h => ∃ K : Frg, K.In h ∧ t.obs Pr K = t.val
  of := fun _ _ e => ⟨_, frG_in, e⟩
  keeps := fun _ _ _ ⟨K, hK, c⟩ k => ⟨K, PySem.W.Frag.In.keeps hK k, c⟩
theorem Tab.obG_eq (t : Tab) {Pr : Program} {n : Nat} {g : Addr → Option Obj} {s : Shared} (h : ∀ a, g a = s.heap.get? a) : t.obG Pr n g = (t.hook Pr n).obs s := by
  have e : g = s.heap.get? := funext h
  rw [e] <;> rfl
def BindOk (dp : DefP) : Prop := ∀ (kV doc pm : Value) (an : Option Addr) (cdv ct : Value) (us : List Value), us.length = dp.ps.length → bindArgs (PySem.W.fnOf dp.name dp.name (defArgs dp.st) (defBody dp.st) (defScope dp.st) .none kV doc pm an cdv ct) ⟨us, []⟩ = pure (dp.ps.zip us)
/-- of the text alone -/
structure Tab.Ok (t : Tab) (Pr : Program) (D : Nat → Option Fn) (G : Nat → P) : Prop where
  defs : ∀ f d, D f = some d → ∃ dp, t.dps[f]? = some dp ∧ okF (t.pg D G) dp d = true
  gls : ∀ k x, t.gls[k]? = some x → G k = x.2
  bind : ∀ dp ∈ t.dps, BindOk dp
  xbind : ∀ e ∈ t.xs, XBind e
  xtxt : ∀ e ∈ t.xs, exB e = true
  xname : ∀ c c' e e', t.ex c = some e → t.ex c' = some e' → e.name = e'.name → c = c'
  top : (Pr.main.scope.names.lookup ("super" : Str)).isSome = false
theorem ex_mem {t : Tab} {c : Nat} {e : ExP} (h : t.ex c = some e) : e ∈ t.xs := by
  unfold Tab.ex at h
  cases q : t.exs[c]? with
  | none => rw [q] at h; cases h
  | some o =>
    rw [q] at h
    have h : o = some e := h
    subst h
    exact List.mem_filterMap.mpr ⟨some e, List.mem_of_getElem? q, rfl⟩
theorem map_at {α β : Type} {f g : α → β} : ∀ {l : List α}, l.map f = l.map g → ∀ x ∈ l, f x = g x
  | [], _, x, h => by cases h
  | a :: l, e, x, h => by
    rw [List.map_cons, List.map_cons] at e
    injection e with e1 e2
    rcases List.mem_cons.mp h with rfl | h
    · exact e1
    · exact map_at e2 x h
def Tab.cls (t : Tab) (K : Frg) (D : Nat → Option Fn) (G : Nat → P) : Cls := ⟨fun c => ga K ((t.pg D G).cnm c), (t.pg D G).cf, (t.pg D G).cok⟩
theorem top_of {t : Tab} {Pr : Program} {D : Nat → Option Fn} {G : Nat → P} (ok : t.Ok Pr D G) {K : Frg} {h : Heap} {mg : Str → Option Value} (X : K.In h) (Gn : h.Ns mainGlobals mg) (c : t.obs Pr K = t.val) : TopOk Pr K mg (t.pg D G) (t.cls K D G) := by
  have c1 : t.says Pr K = true := congrArg (fun z : AlP => z.1) c
  have c2 : (t.dps.map fun d => fnObs K (d.name, none)) = t.dps.map fun d => d.fnD.val := congrArg (fun z : AlP => z.2.1) c
  have c3 : (t.xs.map fun e => fnY K e.name) = t.xs.map ExP.val := congrArg (fun z : AlP => z.2.2) c
  unfold Tab.says at c1
  obtain ⟨s1, c1⟩ := and_t c1
  obtain ⟨s2, c1⟩ := and_t c1
  obtain ⟨s3, c1⟩ := and_t c1
  obtain ⟨s4, c1⟩ := and_t c1
  obtain ⟨s5, c1⟩ := and_t c1
  obtain ⟨s6, s7⟩ := and_t c1
  have exOf : ∀ {k : Nat}, (t.pg D G).cok k = true → ∃ e, t.ex k = some e ∧ (t.pg D G).cnm k = e.name ∧ (t.pg D G).cf k = e.fs := fun {k} hk => by
    obtain ⟨e, he⟩ := Option.isSome_iff_exists.mp (show (t.ex k).isSome = true from hk)
    refine ⟨e, he, ?_, ?_⟩
    · show ((t.ex k).map (·.name)).getD _ = _
      rw [he]; rfl
    · show ((t.ex k).map (·.fs)).getD _ = _
      rw [he]; rfl
  refine ⟨fun x hx => PySem.W.mg_none_of X Gn (eqO_ok (List.all_eq_true.mp s1 x hx)), fun k hk => ?_, fun f d hD => ?_, rfl, rfl, fun k hk => ?_, fun k k' hk hk' => ?_⟩
  · have hk : k < t.gls.length := hk
    have e1 : t.gls[k]? = some t.gls[k] := List.getElem?_eq_getElem hk
    have q := List.all_eq_true.mp s4 _ (List.getElem_mem hk)
    have e2 : (t.pg D G).gnm k = (t.gls[k]).1 := by
      show ((t.gls[k]?).map (·.1)).getD _ = _
      rw [e1]; rfl
    have e3 : (t.pg D G).G k = (t.gls[k]).2 := ok.gls k _ e1
    rw [e2, e3]
    unfold glB1 at q
    split at q
    · rename_i v u g1 g2
      exact ⟨v, u, g1, PySem.W.mg_of X Gn g2, relB_ok q⟩
    · cases q
  · obtain ⟨dp, e1, e2⟩ := ok.defs f d hD
    have hm := List.mem_of_getElem? e1
    have q := List.all_eq_true.mp s5 dp hm
    unfold defB1 at q
    obtain ⟨q1, q⟩ := and_t q
    obtain ⟨q2, q3⟩ := and_t q
    obtain ⟨oc, od, osl, kV, doc, pm, an, cdv, ct, lk, cd⟩ := He.fn_ok (d := dp.fnD) (map_at c2 dp hm) q3
    have F : Fun K dp.name dp.name dp.st (ga K dp.name) _ := fun_mk (st := dp.st) lk cd q2
    refine ⟨dp, ga K dp.name, _, ?_, F, PySem.W.mg_of X Gn (eqO_ok q1), F.binds (fun kV doc pm an cdv ct us hl => ok.bind dp hm kV doc pm an cdv ct us hl), e2⟩
    show ((t.dps[f]?).map (·.name)).getD _ = _
    rw [e1]; rfl
  · obtain ⟨e, he, e1, e2⟩ := exOf hk
    have hm := ex_mem he
    refine ⟨ma K (ga K e.name) "__init__", ?_⟩
    show XTxt Pr K mg (ga K ((t.pg D G).cnm k)) _ ((t.pg D G).cnm k) ((t.pg D G).cf k)
    rw [e1, e2]
    exact x_ok X Gn (List.all_eq_true.mp s6 e hm) (map_at c3 e hm) (ok.xtxt e hm) (ok.xbind e hm) (of_decide_eq_true s3) (PySem.W.mg_none_of X Gn (eqO_ok s2)) ok.top
  · obtain ⟨e, he, e1, e2⟩ := exOf hk
    obtain ⟨e', he', e1', e2'⟩ := exOf hk'
    show PySem.W.exmOne K (.ref (ga K ((t.pg D G).cnm k))) (.ref (ga K ((t.pg D G).cnm k'))) = _
    rw [e1, e1']
    have q := of_decide_eq_true (List.all_eq_true.mp (List.all_eq_true.mp s7 e (ex_mem he)) e' (ex_mem he'))
    rw [q]
    congr 1
    by_cases hc : k = k'
    · subst hc
      rw [he] at he'
      cases he'
      rw [decide_eq_true rfl, decide_eq_true rfl]
    · rw [decide_eq_false hc, decide_eq_false fun z => hc (ok.xname k k' e e' he he' z)]
theorem def_fun {t : Tab} {Pr : Program} {K : Frg} {h : Heap} {mg : Str → Option Value} (X : K.In h) (Gn : h.Ns mainGlobals mg) (c : t.obs Pr K = t.val) {dp : DefP} (hm : dp ∈ t.dps) (hb : BindOk dp) :
    ∃ fd, Fun K dp.name dp.name dp.st (ga K dp.name) fd ∧ mg dp.name = some (.ref (ga K dp.name)) ∧ Binds K fd dp.ps [] ∧ ∀ (s : Shared) (us : List Value), us.length = dp.ps.length → BindsTo s fd ⟨us, []⟩ (dp.ps.zip us) := by
  have c1 : t.says Pr K = true := congrArg (fun z : AlP => z.1) c
  have c2 : (t.dps.map fun d => fnObs K (d.name, none)) = t.dps.map fun d => d.fnD.val := congrArg (fun z : AlP => z.2.1) c
  unfold Tab.says at c1
  obtain ⟨_, c1⟩ := and_t c1
  obtain ⟨_, c1⟩ := and_t c1
  obtain ⟨_, c1⟩ := and_t c1
  obtain ⟨_, c1⟩ := and_t c1
  obtain ⟨s5, _⟩ := and_t c1
  have q := List.all_eq_true.mp s5 dp hm
  unfold defB1 at q
  obtain ⟨q1, q⟩ := and_t q
  obtain ⟨q2, q3⟩ := and_t q
  obtain ⟨oc, od, osl, kV, doc, pm, an, cdv, ct, lk, cd⟩ := He.fn_ok (d := dp.fnD) (map_at c2 dp hm) q3
  have F : Fun K dp.name dp.name dp.st (ga K dp.name) _ := fun_mk (st := dp.st) lk cd q2
  exact ⟨_, F, PySem.W.mg_of X Gn (eqO_ok q1), F.binds (fun kV doc pm an cdv ct us hl => hb kV doc pm an cdv ct us hl), fun s us hl => .of_eq (hb kV doc pm an cdv ct us hl)⟩
theorem scr_ints {K : Frg} {H : Hp} {a : Addr} {ns : List Int} (h : SqL K H a (ns.map V.int)) : Rep K (fun _ => False) H (.ref a) (.scr (ns.map P.int)) := by
  have r : ∀ ns : List Int, Reps K (fun _ => False) H (ns.map V.int) (ns.map P.int) := fun ns => by
    induction ns with
    | nil => exact .nil
    | cons n ns ih => exact .cons (.int n) ih
  rcases h with h | h
  · exact .scr (fun z => z) h (r ns)
  · exact .kls h (r ns)
/-- a law's def: at the module's name law, of one parameter -/
theorem law_facts {t : Tab} {Pr : Program} {D : Nat → Option Fn} {G : Nat → P} (ok : t.Ok Pr D G) {n m f : Nat} {d : Fn} {dp : DefP} (hD : D f = some d) (hdp : t.dps[f]? = some dp) (hn : dp.name = ("law" : Str)) (hps : dp.ps = [("script" : Str)])
    (pure : ∀ ns : List Int, ns.length ≤ m → callF D G (n + 1) f [.scr (ns.map .int)] = .ok (.bl true)) {w : World} {h : Heap} {mg : Str → Option Value} {fa : Addr} {K : Frg} (X : K.In h) (Gn : h.Ns mainGlobals mg) (hfa : mg ("law" : Str) = some (.ref fa)) (c : t.obs Pr K = t.val) :
    ∃ (K : Frg) (fd : FuncData) (sp : Sp), K.In h ∧ (∀ (s : Shared) (u : Value), BindsTo s fd ⟨[u], []⟩ [("script", u)]) ∧
      (∀ (H : Hp) (a : Addr) (ns : List Int), ns.length ≤ m → Only H → SqL K H a (ns.map V.int) → sp [.ref a] H (fun v _ => v = .bl true) fun _ _ _ => False) ∧
      ∀ base : Heap, K.In base → base.Ns mainGlobals mg → FnOk Pr w K mg base (L2.CX Pr w) (n + 1) fa fd ["script"] sp := by
  have T := top_of ok X Gn c
  have hm := List.mem_of_getElem? hdp
  obtain ⟨fd, F, e2, hb, hbt⟩ := def_fun X Gn c hm (ok.bind dp hm)
  obtain ⟨dp', e3, hok⟩ := ok.defs f d hD
  rw [hdp] at e3
  cases e3
  have ea : ga K dp.name = fa := by
    rw [hn, hfa] at e2
    injection e2 with e2
    injection e2 with e2
    rw [hn]
    exact e2.symm
  refine ⟨K, fd, spOf (t.cls K D G) K (callF D G (n + 1) f), X, fun s u => ?_, fun H a ns hl _ hS => ?_, fun base _ _ => ?_⟩
  · have q := hbt s [u] (by rw [hps]; rfl)
    rw [hps] at q
    exact q
  · refine ⟨fun _ => False, [.scr (ns.map .int)], fun _ z => z.elim, .cons (scr_ints hS) .nil, ?_⟩
    rw [pure ns hl]
    intro v H' _ r
    cases r
    rfl
  · have q := fn_at (P := Pr) (w := w) (base := base) T (n := n) (fun f d h => fn_all T n f d h) hD F hok
    rw [hps, ea] at q
    exact q
theorem law_walk {l : PySem.W.OpenLaw} {t : Tab} {D : Nat → Option Fn} {G : Nat → P} (ok : t.Ok l.prog D G) {n m f st : Nat} {d : Fn} {dp : DefP} (hD : D f = some d) (hdp : t.dps[f]? = some dp) (hn : dp.name = ("law" : Str)) (hps : dp.ps = [("script" : Str)])
    (pure : ∀ ns : List Int, ns.length ≤ m → callF D G (n + 1) f [.scr (ns.map .int)] = .ok (.bl true)) (hm : l.most = some m) (hm2 : m ≤ sizeLine) (hr : Room (n + 1) callerA)
    {q : Program} {loose : List Str} {XP : (Str → Option Value) → Heap → Prop} {dr : DefRec} (hdn : dr.name = ("law" : Str)) (hdf : dr.params.defaults = []) :
    PySem.W.WalkO q loose XP (t.hook l.prog st).says l.row.toRowW dr [] (fun f vs => PySem.call f vs) := by
  refine Att.attach_call hm hdf fun w s0 s1 mg mb fa o pm cd doc a vs ns Gr Y hob hdt hcode hlaw hlist hint hle hgen => ?_
  obtain ⟨K, KX, c⟩ := Y
  rw [hdn] at hlaw
  obtain ⟨K2, fd, sp, X2, hb, hsp, hF⟩ := law_facts (w := w) ok hD hdp hn hps pure KX Gr.T.g hlaw c
  refine law_call X2 Gr.T.g Gr.T.b Gr.T.builtins Gr.T.nolimit hgen hlist hint (Nat.le_trans hle hm2) hr hF hb (fun H hO hS => hsp H a ns hle hO hS) fun H e s' z => ?_
  obtain ⟨_, _, _, _, _, _, _, _, _, _, _, _, z⟩ := z
  exact z
def inCls (s : Stmt) (j : Nat) : Stmt := match s with
  | .ClassDef _ _ _ b _ _ _ _ _ _ _ => b.getD j (.Pass ⟨0, 0, 0, 0⟩)
  | s => s
theorem defs_of {t : Tab} {p : Pg} {fnL : List Fn} (hl : t.dps.length = fnL.length) (h : (t.dps.zip fnL).all (fun x => okF p x.1 x.2) = true) : ∀ (f : Nat) (d : Fn), fnL[f]? = some d → ∃ dp, t.dps[f]? = some dp ∧ okF p dp d = true := fun f d hf => by
  have hlt : f < t.dps.length := by rw [hl]; exact (List.getElem?_eq_some_iff.mp hf).1
  refine ⟨t.dps[f], List.getElem?_eq_getElem hlt, ?_⟩
  refine List.all_eq_true.mp h (t.dps[f], d) (List.mem_of_getElem? (i := f) ?_)
  exact List.getElem?_zip_eq_some.mpr ⟨List.getElem?_eq_getElem hlt, hf⟩
theorem gls_of {l : List (Str × P)} : ∀ (k : Nat) (x : Str × P), l[k]? = some x → (l[k]?.map (·.2)).getD P.non = x.2 := fun k x h => by rw [h]; rfl
theorem xname_of {t : Tab} (h : (t.xs.map (·.name)).Nodup) : ∀ (c c' : Nat) (e e' : ExP), t.ex c = some e → t.ex c' = some e' → e.name = e'.name → c = c' := by
  have key : ∀ (l : List (Option ExP)), ((l.filterMap id).map (·.name)).Nodup → ∀ (c c' : Nat) (e e' : ExP), (l[c]?).getD none = some e → (l[c']?).getD none = some e' → e.name = e'.name → c = c' := by
    intro l
    induction l with
    | nil => intro _ c c' e e' h1; simp at h1
    | cons o l ih =>
      intro nd c c' e e' h1 h2 hn
      have at' : ∀ {k : Nat} {y : ExP}, (l[k]?).getD none = some y → y ∈ l.filterMap id := fun {k y} hk => by
        cases q : l[k]? with
        | none => rw [q] at hk; cases hk
        | some z =>
          rw [q] at hk
          have hk : z = some y := hk
          subst hk
          exact List.mem_filterMap.mpr ⟨some y, List.mem_of_getElem? q, rfl⟩
      cases o with
      | none =>
        have nd' : ((l.filterMap id).map (·.name)).Nodup := nd
        cases c with
        | zero => simp at h1
        | succ c =>
          cases c' with
          | zero => simp at h2
          | succ c' => rw [ih nd' c c' e e' (by simpa using h1) (by simpa using h2) hn]
      | some x =>
        have nd1 : (x.name :: (l.filterMap id).map (·.name)).Nodup := nd
        rw [List.nodup_cons] at nd1
        cases c with
        | zero =>
          have h1 : x = e := by simpa using h1
          subst h1
          cases c' with
          | zero => rfl
          | succ c' =>
            exfalso
            exact nd1.1 (hn ▸ List.mem_map.mpr ⟨e', at' (by simpa using h2), rfl⟩)
        | succ c =>
          cases c' with
          | zero =>
            have h2 : x = e' := by simpa using h2
            subst h2
            exfalso
            exact nd1.1 (hn ▸ List.mem_map.mpr ⟨e, at' (by simpa using h1), rfl⟩)
          | succ c' => rw [ih nd1.2 c c' e e' (by simpa using h1) (by simpa using h2) hn]
  exact key t.exs h
end PL
end

section
set_option Elab.async false
set_option linter.all false
set_option maxRecDepth 100000
/-! law_k50_algebra: the IR of each def, printed by gen.py -/
namespace K50
open PySem PL
/- 0: is_integer(value)  slots: 0 value -/
def i_is_integer : Fn := ⟨1, 1, (.cons (.ret (.band (.cons (.blt .isInt (.cons (.v 0) .nil)) (.cons (.not (.blt .isBool (.cons (.v 0) .nil))) .nil))))
 .nil)⟩
/- 1: is_number(value, low, high)  slots: 0 value, 1 low, 2 high -/
def i_is_number : Fn := ⟨3, 3, (.cons (.ret (.band (.cons (.call 0 (.cons (.v 0) .nil)) (.cons (.chain .le .le (.v 1) (.v 0) (.v 2)) .nil))))
 .nil)⟩
/- 2: zero(size)  slots: 0 size -/
def i_zero : Fn := ⟨1, 1, (.cons (.ret (.bin .mul (.tup (.cons (.c (.int 0)) .nil)) (.v 0)))
 .nil)⟩
/- 3: plus(a, b)  slots: 0 a, 1 b, 2 x, 3 y -/
def i_plus : Fn := ⟨4, 2, (.cons (.ret (.blt .tuple (.cons (.comp (.bin .add (.v 2) (.v 3)) (.pr (.v 2) (.v 3)) [2, 3] (.zip (.v 0) (.v 1)) .no) .nil)))
 .nil)⟩
/- 4: minus(a, b)  slots: 0 a, 1 b, 2 x, 3 y -/
def i_minus : Fn := ⟨4, 2, (.cons (.ret (.blt .tuple (.cons (.comp (.bin .sub (.v 2) (.v 3)) (.pr (.v 2) (.v 3)) [2, 3] (.zip (.v 0) (.v 1)) .no) .nil)))
 .nil)⟩
/- 5: top(a, b)  slots: 0 a, 1 b, 2 x, 3 y -/
def i_top : Fn := ⟨4, 2, (.cons (.ret (.blt .tuple (.cons (.comp (.blt .max2 (.cons (.v 2) (.cons (.v 3) .nil))) (.pr (.v 2) (.v 3)) [2, 3] (.zip (.v 0) (.v 1)) .no) .nil)))
 .nil)⟩
/- 6: total(a)  slots: 0 a -/
def i_total : Fn := ⟨1, 1, (.cons (.ret (.blt .sum (.cons (.v 0) .nil)))
 .nil)⟩
/- 7: fits(a, b)  slots: 0 a, 1 b, 2 x, 3 y -/
def i_fits : Fn := ⟨4, 2, (.cons (.for_ (.pr (.v 2) (.v 3)) (.zip (.v 0) (.v 1)) [2, 3]
 (.cons (.ite (.cmp .gt (.v 2) (.v 3))
 (.cons (.ret (.c (.bl false)))
 .nil)
 .nil)
 .nil))
 (.cons (.ret (.c (.bl true)))
 .nil))⟩
/- 8: cells(box)  slots: 0 box, 1 count, 2 most -/
def i_cells : Fn := ⟨3, 1, (.cons (.set 1 (.c (.int 1)))
 (.cons (.for_ (.v 2) (.seq (.v 0)) [2]
 (.cons (.set 1 (.bin .mul (.v 1) (.bin .add (.v 2) (.c (.int 1)))))
 .nil))
 (.cons (.ret (.v 1))
 .nil)))⟩
/- 9: place(vector, box)  slots: 0 vector, 1 box, 2 index, 3 entry, 4 most -/
def i_place : Fn := ⟨5, 2, (.cons (.set 2 (.c (.int 0)))
 (.cons (.for_ (.pr (.v 3) (.v 4)) (.zip (.v 0) (.v 1)) [3, 4]
 (.cons (.set 2 (.bin .add (.bin .mul (.v 2) (.bin .add (.v 4) (.c (.int 1)))) (.v 3)))
 .nil))
 (.cons (.ret (.v 2))
 .nil)))⟩
/- 10: vectors_within(box)  slots: 0 box, 1 found, 2 most, 3 vector, 4 entry -/
def i_vectors_within : Fn := ⟨5, 1, (.cons (.ite (.cmp .gt (.call 8 (.cons (.v 0) .nil)) (.g 8))
 (.cons (.raise 5 (.cons (.g 8) .nil))
 .nil)
 .nil)
 (.cons (.set 1 (.lst (.cons (.tup .nil) .nil)))
 (.cons (.for_ (.v 2) (.seq (.v 0)) [2, 3, 4]
 (.cons (.set 1 (.comp2 (.bin .add (.v 3) (.tup (.cons (.v 4) .nil))) (.v 3) [3, 4] (.seq (.v 1)) (.v 4) [4] (.rng1 (.bin .add (.v 2) (.c (.int 1)))) .no))
 .nil))
 (.cons (.ret (.blt .tuple (.cons (.v 1) .nil)))
 .nil))))⟩
/- 11: is_vector(value, size)  slots: 0 value, 1 size, 2 entry -/
def i_is_vector : Fn := ⟨3, 2, (.cons (.ite (.bor (.cons (.not (.blt .isTuple (.cons (.v 0) .nil))) (.cons (.cmp .ne (.blt .len (.cons (.v 0) .nil)) (.v 1)) .nil)))
 (.cons (.ret (.c (.bl false)))
 .nil)
 .nil)
 (.cons (.ret (.blt .all (.cons (.comp (.call 1 (.cons (.v 2) (.cons (.c (.int 0)) (.cons (.g 1) .nil)))) (.v 2) [2] (.seq (.v 0)) .no) .nil)))
 .nil))⟩
/- 12: check_vector(value, size)  slots: 0 value, 1 size -/
def i_check_vector : Fn := ⟨2, 2, (.cons (.ite (.not (.call 11 (.cons (.v 0) (.cons (.v 1) .nil))))
 (.cons (.raise 2 (.cons (.v 0) .nil))
 .nil)
 .nil)
 .nil)⟩
/- 13: first_size(head)  slots: 0 head, 1 vector, 2 off, 3 entry -/
def i_first_size : Fn := ⟨4, 1, (.cons (.ite (.bor (.cons (.not (.blt .isTuple (.cons (.v 0) .nil))) (.cons (.cmp .ne (.blt .len (.cons (.v 0) .nil)) (.c (.int 2))) .nil)))
 (.cons (.ret (.c (.int 0)))
 .nil)
 .nil)
 (.cons (.bind (.pr (.v 1) (.v 2)) (.v 0))
 (.cons (.ite (.bor (.cons (.not (.blt .isTuple (.cons (.v 1) .nil))) (.cons (.not (.chain .le .le (.c (.int 1)) (.blt .len (.cons (.v 1) .nil)) (.g 0))) .nil)))
 (.cons (.ret (.c (.int 0)))
 .nil)
 .nil)
 (.cons (.ite (.bor (.cons (.not (.call 1 (.cons (.v 2) (.cons (.c (.int 0)) (.cons (.c (.int 0)) .nil))))) (.cons (.not (.blt .all (.cons (.comp (.call 1 (.cons (.v 3) (.cons (.c (.int 0)) (.cons (.c (.int 0)) .nil)))) (.v 3) [3] (.seq (.v 1)) .no) .nil))) .nil)))
 (.cons (.ret (.c (.int 0)))
 .nil)
 .nil)
 (.cons (.ret (.blt .len (.cons (.v 1) .nil)))
 .nil)))))⟩
/- 14: is_row(row, size, most, low, high)  slots: 0 row, 1 size, 2 most, 3 low, 4 high, 5 vector, 6 off, 7 entry -/
def i_is_row : Fn := ⟨8, 5, (.cons (.ite (.bor (.cons (.not (.blt .isTuple (.cons (.v 0) .nil))) (.cons (.cmp .ne (.blt .len (.cons (.v 0) .nil)) (.c (.int 2))) .nil)))
 (.cons (.ret (.c (.bl false)))
 .nil)
 .nil)
 (.cons (.bind (.pr (.v 5) (.v 6)) (.v 0))
 (.cons (.ite (.bor (.cons (.not (.blt .isTuple (.cons (.v 5) .nil))) (.cons (.cmp .ne (.blt .len (.cons (.v 5) .nil)) (.v 1)) .nil)))
 (.cons (.ret (.c (.bl false)))
 .nil)
 .nil)
 (.cons (.ret (.band (.cons (.call 1 (.cons (.v 6) (.cons (.v 3) (.cons (.v 4) .nil)))) (.cons (.blt .all (.cons (.comp (.call 1 (.cons (.v 7) (.cons (.c (.int 0)) (.cons (.v 2) .nil)))) (.v 7) [7] (.seq (.v 5)) .no) .nil)) .nil))))
 .nil))))⟩
/- 15: is_standing(form, size)  slots: 0 form, 1 size -/
def i_is_standing : Fn := ⟨2, 2, (.cons (.ret (.band (.cons (.call 14 (.cons (.v 0) (.cons (.v 1) (.cons (.g 2) (.cons (.c (.int 1)) (.cons (.g 7) .nil)))))) (.cons (.cmp .gt (.call 6 (.cons (.subv 0 (.c (.int 0))) .nil)) (.c (.int 0))) .nil))))
 .nil)⟩
/- 16: check_tariff(tariff)  slots: 0 tariff, 1 size, 2 head, 3 form, 4 heads, 5 forms -/
def i_check_tariff : Fn := ⟨6, 1, (.cons (.ite (.bor (.cons (.not (.blt .isTuple (.cons (.v 0) .nil))) (.cons (.cmp .ne (.blt .len (.cons (.v 0) .nil)) (.c (.int 2))) .nil)))
 (.cons (.raise 3 (.cons (.c (.str "tariff")) .nil))
 .nil)
 .nil)
 (.cons (.bind (.pr (.v 4) (.v 5)) (.v 0))
 (.cons (.ite (.bor (.cons (.not (.blt .isTuple (.cons (.v 4) .nil))) (.cons (.not (.blt .isTuple (.cons (.v 5) .nil))) .nil)))
 (.cons (.raise 3 (.cons (.c (.str "tariff")) .nil))
 .nil)
 .nil)
 (.cons (.ite (.not (.chain .le .le (.c (.int 1)) (.blt .len (.cons (.v 4) .nil)) (.g 3)))
 (.cons (.raise 3 (.cons (.c (.str "heads")) .nil))
 .nil)
 .nil)
 (.cons (.set 1 (.call 13 (.cons (.subv 4 (.c (.int 0))) .nil)))
 (.cons (.ite (.cmp .eq (.v 1) (.c (.int 0)))
 (.cons (.raise 3 (.cons (.c (.str "first")) .nil))
 .nil)
 .nil)
 (.cons (.for_ (.v 2) (.seq (.v 4)) [2]
 (.cons (.ite (.not (.call 14 (.cons (.v 2) (.cons (.v 1) (.cons (.g 6) (.cons (.c (.int 0)) (.cons (.g 5) .nil)))))))
 (.cons (.raise 3 (.cons (.c (.str "heads")) .nil))
 .nil)
 .nil)
 .nil))
 (.cons (.ite (.cmp .gt (.blt .len (.cons (.v 5) .nil)) (.g 4))
 (.cons (.raise 3 (.cons (.c (.str "forms")) .nil))
 .nil)
 .nil)
 (.cons (.for_ (.v 3) (.seq (.v 5)) [3]
 (.cons (.ite (.not (.call 15 (.cons (.v 3) (.cons (.v 1) .nil))))
 (.cons (.raise 3 (.cons (.c (.str "forms")) .nil))
 .nil)
 .nil)
 .nil))
 (.cons (.ret (.v 1))
 .nil))))))))))⟩
/- 17: check_two(first, second)  slots: 0 first, 1 second, 2 size -/
def i_check_two : Fn := ⟨3, 2, (.cons (.set 2 (.call 16 (.cons (.v 0) .nil)))
 (.cons (.ite (.cmp .ne (.call 16 (.cons (.v 1) .nil)) (.v 2))
 (.cons (.raise 3 (.cons (.c (.str "size")) .nil))
 .nil)
 .nil)
 (.cons (.ret (.v 2))
 .nil)))⟩
/- 18: table(forms, box)  slots: 0 forms, 1 box, 2 values, 3 vector, 4 best, 5 taken, 6 off -/
def i_table : Fn := ⟨7, 2, (.cons (.new 2 (.lst .nil))
 (.cons (.for_ (.v 3) (.seq (.call 10 (.cons (.v 1) .nil))) [3, 4, 5, 6]
 (.cons (.set 4 (.c (.int 0)))
 (.cons (.for_ (.pr (.v 5) (.v 6)) (.seq (.v 0)) [5, 6]
 (.cons (.ite (.call 7 (.cons (.v 5) (.cons (.v 3) .nil)))
 (.cons (.set 4 (.blt .max2 (.cons (.v 4) (.cons (.bin .add (.v 6) (.subv 2 (.call 9 (.cons (.call 4 (.cons (.v 3) (.cons (.v 5) .nil))) (.cons (.v 1) .nil))))) .nil))))
 .nil)
 .nil)
 .nil))
 (.cons (.app 2 (.v 4))
 .nil))))
 (.cons (.frz 2)
 (.cons (.ret (.blt .tuple (.cons (.v 2) .nil)))
 .nil))))⟩
/- 19: best_off(heads, basket, box, values)  slots: 0 heads, 1 basket, 2 box, 3 values, 4 best, 5 taken, 6 off -/
def i_best_off : Fn := ⟨7, 4, (.cons (.set 4 (.c (.int 0)))
 (.cons (.for_ (.pr (.v 5) (.v 6)) (.seq (.v 0)) [5, 6]
 (.cons (.ite (.call 7 (.cons (.v 5) (.cons (.v 1) .nil)))
 (.cons (.set 4 (.blt .max2 (.cons (.v 4) (.cons (.bin .add (.v 6) (.subv 3 (.call 9 (.cons (.call 4 (.cons (.v 1) (.cons (.v 5) .nil))) (.cons (.v 2) .nil))))) .nil))))
 .nil)
 .nil)
 .nil))
 (.cons (.ret (.v 4))
 .nil)))⟩
/- 20: off_of(tariff, basket)  slots: 0 tariff, 1 basket -/
def i_off_of : Fn := ⟨2, 2, (.cons (.eff (.call 12 (.cons (.v 1) (.cons (.call 16 (.cons (.v 0) .nil)) .nil))))
 (.cons (.ret (.call 19 (.cons (.subv 0 (.c (.int 0))) (.cons (.v 1) (.cons (.v 1) (.cons (.call 18 (.cons (.subv 0 (.c (.int 1))) (.cons (.v 1) .nil))) .nil))))))
 .nil))⟩
/- 21: better(first, second)  slots: 0 first, 1 second, 2 heads -/
def i_better : Fn := ⟨3, 2, (.cons (.eff (.call 17 (.cons (.v 0) (.cons (.v 1) .nil))))
 (.cons (.ite (.cmp .ne (.subv 0 (.c (.int 1))) (.subv 1 (.c (.int 1))))
 (.cons (.raise 3 (.cons (.c (.str "forms")) .nil))
 .nil)
 .nil)
 (.cons (.set 2 (.bin .add (.subv 0 (.c (.int 0))) (.slc (.subv 1 (.c (.int 0))) (.so (.c (.int 1))) .no)))
 (.cons (.ite (.cmp .gt (.blt .len (.cons (.v 2) .nil)) (.g 3))
 (.cons (.raise 4 (.cons (.g 3) .nil))
 .nil)
 .nil)
 (.cons (.ret (.tup (.cons (.v 2) (.cons (.subv 0 (.c (.int 1))) .nil))))
 .nil)))))⟩
/- 22: apart(first, second)  slots: 0 first, 1 second, 2 heads, 3 whole, 4 vector, 5 off, 6 other, 7 given -/
def i_apart : Fn := ⟨8, 2, (.cons (.eff (.call 17 (.cons (.v 0) (.cons (.v 1) .nil))))
 (.cons (.ite (.cmp .gt (.bin .mul (.blt .len (.cons (.subv 0 (.c (.int 0))) .nil)) (.blt .len (.cons (.subv 1 (.c (.int 0))) .nil))) (.g 3))
 (.cons (.raise 4 (.cons (.g 3) .nil))
 .nil)
 .nil)
 (.cons (.ite (.cmp .gt (.bin .add (.blt .len (.cons (.subv 0 (.c (.int 1))) .nil)) (.blt .len (.cons (.subv 1 (.c (.int 1))) .nil))) (.g 4))
 (.cons (.raise 4 (.cons (.g 4) .nil))
 .nil)
 .nil)
 (.cons (.new 2 (.lst .nil))
 (.cons (.for_ (.pr (.v 4) (.v 5)) (.seq (.subv 0 (.c (.int 0)))) [4, 5, 6, 7]
 (.cons (.for_ (.pr (.v 6) (.v 7)) (.seq (.subv 1 (.c (.int 0)))) [6, 7]
 (.cons (.app 2 (.tup (.cons (.call 3 (.cons (.v 4) (.cons (.v 6) .nil))) (.cons (.bin .add (.v 5) (.v 7)) .nil))))
 .nil))
 .nil))
 (.cons (.frz 2)
 (.cons (.set 3 (.tup (.cons (.blt .tuple (.cons (.v 2) .nil)) (.cons (.bin .add (.subv 0 (.c (.int 1))) (.subv 1 (.c (.int 1)))) .nil))))
 (.cons (.eff (.call 16 (.cons (.v 3) .nil)))
 (.cons (.ret (.v 3))
 .nil)))))))))⟩
/- 23: picked(rows, at)  slots: 0 rows, 1 at, 2 found, 3 vector, 4 off, 5 part, 6 good -/
def i_picked : Fn := ⟨7, 2, (.cons (.new 2 (.lst .nil))
 (.cons (.for_ (.pr (.v 3) (.v 4)) (.seq (.v 0)) [3, 4, 5, 6]
 (.cons (.set 5 (.blt .tuple (.cons (.comp (.subv 3 (.v 6)) (.v 6) [6] (.seq (.v 1)) .no) .nil)))
 (.cons (.ite (.cmp .eq (.blt .sum (.cons (.v 5) .nil)) (.call 6 (.cons (.v 3) .nil)))
 (.cons (.app 2 (.tup (.cons (.v 5) (.cons (.v 4) .nil))))
 .nil)
 .nil)
 .nil)))
 (.cons (.frz 2)
 (.cons (.ret (.blt .tuple (.cons (.v 2) .nil)))
 .nil))))⟩
/- 24: project(tariff, at)  slots: 0 tariff, 1 at, 2 size, 3 least, 4 good -/
def i_project : Fn := ⟨5, 2, (.cons (.set 2 (.call 16 (.cons (.v 0) .nil)))
 (.cons (.ite (.bor (.cons (.not (.blt .isTuple (.cons (.v 1) .nil))) (.cons (.cmp .eq (.blt .len (.cons (.v 1) .nil)) (.c (.int 0))) .nil)))
 (.cons (.raise 2 (.cons (.v 1) .nil))
 .nil)
 .nil)
 (.cons (.set 3 (.c (.int 0)))
 (.cons (.for_ (.v 4) (.seq (.v 1)) [4]
 (.cons (.ite (.not (.call 1 (.cons (.v 4) (.cons (.v 3) (.cons (.bin .sub (.v 2) (.c (.int 1))) .nil)))))
 (.cons (.raise 1 (.cons (.v 4) (.cons (.v 3) (.cons (.bin .sub (.v 2) (.c (.int 1))) .nil))))
 .nil)
 .nil)
 (.cons (.set 3 (.bin .add (.v 4) (.c (.int 1))))
 .nil)))
 (.cons (.ret (.tup (.cons (.call 23 (.cons (.subv 0 (.c (.int 0))) (.cons (.v 1) .nil))) (.cons (.call 23 (.cons (.subv 0 (.c (.int 1))) (.cons (.v 1) .nil))) .nil))))
 .nil)))))⟩
/- 25: trim(tariff)  slots: 0 tariff, 1 size, 2 box, 3 head, 4 values, 5 kept, 6 at, 7 heads, 8 forms, 9 others -/
def i_trim : Fn := ⟨10, 1, (.cons (.set 1 (.call 16 (.cons (.v 0) .nil)))
 (.cons (.bind (.pr (.v 7) (.v 8)) (.v 0))
 (.cons (.set 2 (.call 2 (.cons (.v 1) .nil)))
 (.cons (.for_ (.v 3) (.seq (.v 7)) [3]
 (.cons (.set 2 (.call 5 (.cons (.v 2) (.cons (.subv 3 (.c (.int 0))) .nil))))
 .nil))
 (.cons (.set 4 (.call 18 (.cons (.v 8) (.cons (.v 2) .nil))))
 (.cons (.set 5 (.blt .list (.cons (.v 7) .nil)))
 (.cons (.for_ (.v 6) (.rng3 (.bin .sub (.blt .len (.cons (.v 7) .nil)) (.c (.int 1))) (.c (.int 0)) (.neg (.c (.int 1)))) [6, 9]
 (.cons (.set 9 (.bin .add (.slc (.v 5) .no (.so (.v 6))) (.slc (.v 5) (.so (.bin .add (.v 6) (.c (.int 1)))) .no)))
 (.cons (.ite (.cmp .ge (.call 19 (.cons (.v 9) (.cons (.sub (.subv 7 (.v 6)) (.c (.int 0))) (.cons (.v 2) (.cons (.v 4) .nil))))) (.sub (.subv 7 (.v 6)) (.c (.int 1))))
 (.cons (.set 5 (.v 9))
 .nil)
 .nil)
 .nil)))
 (.cons (.ret (.tup (.cons (.blt .tuple (.cons (.v 5) .nil)) (.cons (.v 8) .nil))))
 .nil))))))))⟩
/- 26: _law_numbers(script, k, many)  slots: 0 script, 1 k, 2 many, 3 cell, 4 left, 5 mixed, 6 numbers, 7 at -/
def i__law_numbers : Fn := ⟨8, 3, (.cons (.set 3 (.bin .add (.bin .mul (.c (.int 7)) (.v 1)) (.blt .len (.cons (.v 0) .nil))))
 (.cons (.ite (.cmp .lt (.v 1) (.blt .len (.cons (.v 0) .nil)))
 (.cons (.set 3 (.subv 0 (.v 1)))
 .nil)
 .nil)
 (.cons (.set 4 (.v 3))
 (.cons (.set 5 (.bin .mod (.blt .int (.cons (.v 3) .nil)) (.c (.int 2147483647))))
 (.cons (.new 6 (.lst .nil))
 (.cons (.for_ (.v 7) (.rng1 (.v 2)) [7]
 (.cons (.ite (.band (.cons (.cmp .ge (.v 3) (.bin .pow (.c (.int 10)) (.c (.int 18)))) (.cons (.cmp .gt (.v 4) (.c (.int 0))) .nil)))
 (.cons (.app 6 (.bin .mod (.blt .int (.cons (.v 4) .nil)) (.c (.int 1000))))
 (.cons (.set 4 (.bin .fdiv (.v 4) (.c (.int 1000))))
 .nil))
 (.cons (.set 5 (.bin .mod (.blt .int (.cons (.bin .add (.bin .add (.bin .add (.bin .mul (.v 5) (.c (.int 48271))) (.bin .mul (.c (.int 69621)) (.v 7))) (.bin .mul (.c (.int 40692)) (.v 1))) (.c (.int 12345))) .nil)) (.c (.int 2147483647))))
 (.cons (.app 6 (.bin .mod (.bin .fdiv (.bin .mod (.blt .int (.cons (.bin .mul (.v 5) (.v 5)) .nil)) (.c (.int 2147483629))) (.c (.int 211))) (.c (.int 1000))))
 .nil)))
 .nil))
 (.cons (.frz 6)
 (.cons (.ret (.v 6))
 .nil))))))))⟩
/- 27: _law_same(told, due)  slots: 0 told, 1 due, 2 k -/
def i__law_same : Fn := ⟨3, 2, (.cons (.ite (.cmp .isn (.v 1) (.c .non))
 (.cons (.ret (.cmp .isn (.v 0) (.c .non)))
 .nil)
 .nil)
 (.cons (.ite (.blt .isBool (.cons (.v 1) .nil))
 (.cons (.ret (.band (.cons (.blt .isBool (.cons (.v 0) .nil)) (.cons (.cmp .eq (.v 0) (.v 1)) .nil))))
 .nil)
 .nil)
 (.cons (.ite (.blt .isStr (.cons (.v 1) .nil))
 (.cons (.ret (.band (.cons (.blt .isStr (.cons (.v 0) .nil)) (.cons (.cmp .eq (.v 0) (.v 1)) .nil))))
 .nil)
 .nil)
 (.cons (.ite (.blt .isTuple (.cons (.v 1) .nil))
 (.cons (.ite (.bor (.cons (.not (.blt .isTuple (.cons (.v 0) .nil))) (.cons (.cmp .ne (.blt .len (.cons (.v 0) .nil)) (.blt .len (.cons (.v 1) .nil))) .nil)))
 (.cons (.ret (.c (.bl false)))
 .nil)
 .nil)
 (.cons (.for_ (.v 2) (.rng1 (.blt .len (.cons (.v 1) .nil))) [2]
 (.cons (.ite (.not (.call 27 (.cons (.subv 0 (.v 2)) (.cons (.subv 1 (.v 2)) .nil))))
 (.cons (.ret (.c (.bl false)))
 .nil)
 .nil)
 .nil))
 (.cons (.ret (.c (.bl true)))
 .nil)))
 .nil)
 (.cons (.ret (.band (.cons (.blt .isInt (.cons (.v 0) .nil)) (.cons (.not (.blt .isBool (.cons (.v 0) .nil))) (.cons (.cmp .eq (.v 0) (.v 1)) .nil)))))
 .nil)))))⟩
/- 28: _law_unit(size, at)  slots: 0 size, 1 at, 2 k -/
def i__law_unit : Fn := ⟨3, 2, (.cons (.ret (.blt .tuple (.cons (.comp (.blt .int (.cons (.cmp .eq (.v 2) (.v 1)) .nil)) (.v 2) [2] (.rng1 (.v 0)) .no) .nil)))
 .nil)⟩
/- 29: _law_plus(a, b)  slots: 0 a, 1 b, 2 k -/
def i__law_plus : Fn := ⟨3, 2, (.cons (.ret (.blt .tuple (.cons (.comp (.bin .add (.subv 0 (.v 2)) (.subv 1 (.v 2))) (.v 2) [2] (.rng1 (.blt .len (.cons (.v 0) .nil))) .no) .nil)))
 .nil)⟩
/- 30: _law_minus(a, b)  slots: 0 a, 1 b, 2 k -/
def i__law_minus : Fn := ⟨3, 2, (.cons (.ret (.blt .tuple (.cons (.comp (.bin .sub (.subv 0 (.v 2)) (.subv 1 (.v 2))) (.v 2) [2] (.rng1 (.blt .len (.cons (.v 0) .nil))) .no) .nil)))
 .nil)⟩
/- 31: _law_fits(a, b)  slots: 0 a, 1 b, 2 k -/
def i__law_fits : Fn := ⟨3, 2, (.cons (.ret (.blt .all (.cons (.comp (.cmp .le (.subv 0 (.v 2)) (.subv 1 (.v 2))) (.v 2) [2] (.rng1 (.blt .len (.cons (.v 0) .nil))) .no) .nil)))
 .nil)⟩
/- 32: _law_cells(box)  slots: 0 box, 1 cells_v, 2 most -/
def i__law_cells : Fn := ⟨3, 1, (.cons (.set 1 (.c (.int 1)))
 (.cons (.for_ (.v 2) (.seq (.v 0)) [2]
 (.cons (.set 1 (.bin .mul (.v 1) (.bin .add (.v 2) (.c (.int 1)))))
 .nil))
 (.cons (.ret (.v 1))
 .nil)))⟩
/- 33: _law_members(box)  slots: 0 box, 1 found, 2 most, 3 longer, 4 one, 5 entry -/
def i__law_members : Fn := ⟨6, 1, (.cons (.set 1 (.lst (.cons (.tup .nil) .nil)))
 (.cons (.for_ (.v 2) (.seq (.v 0)) [2, 3, 4, 5]
 (.cons (.new 3 (.lst .nil))
 (.cons (.for_ (.v 4) (.seq (.v 1)) [4, 5]
 (.cons (.ext 3 (.comp (.bin .add (.v 4) (.tup (.cons (.v 5) .nil))) (.v 5) [5] (.rng1 (.bin .add (.v 2) (.c (.int 1)))) .no))
 .nil))
 (.cons (.frz 3)
 (.cons (.set 1 (.v 3))
 .nil)))))
 (.cons (.ret (.v 1))
 .nil)))⟩
/- 34: _law_most(forms, box)  slots: 0 forms, 1 box, 2 most, 3 w, 4 best, 5 form -/
def i__law_most : Fn := ⟨6, 2, (.cons (.new 2 (.c (.dic [])))
 (.cons (.for_ (.v 3) (.seq (.call 33 (.cons (.v 1) .nil))) [3, 4, 5]
 (.cons (.set 4 (.c (.int 0)))
 (.cons (.for_ (.v 5) (.seq (.v 0)) [5]
 (.cons (.ite (.call 31 (.cons (.subv 5 (.c (.int 0))) (.cons (.v 3) .nil)))
 (.cons (.set 4 (.blt .max2 (.cons (.v 4) (.cons (.bin .add (.subv 5 (.c (.int 1))) (.subv 2 (.call 30 (.cons (.v 3) (.cons (.subv 5 (.c (.int 0))) .nil))))) .nil))))
 .nil)
 .nil)
 .nil))
 (.cons (.put 2 (.v 3) (.v 4))
 .nil))))
 (.cons (.frz 2)
 (.cons (.ret (.v 2))
 .nil))))⟩
/- 35: _law_off(heads, most, basket)  slots: 0 heads, 1 most, 2 basket, 3 best, 4 head -/
def i__law_off : Fn := ⟨5, 3, (.cons (.set 3 (.c (.int 0)))
 (.cons (.for_ (.v 4) (.seq (.v 0)) [4]
 (.cons (.ite (.call 31 (.cons (.subv 4 (.c (.int 0))) (.cons (.v 2) .nil)))
 (.cons (.set 3 (.blt .max2 (.cons (.v 3) (.cons (.bin .add (.subv 4 (.c (.int 1))) (.subv 1 (.call 30 (.cons (.v 2) (.cons (.subv 4 (.c (.int 0))) .nil))))) .nil))))
 .nil)
 .nil)
 .nil))
 (.cons (.ret (.v 3))
 .nil)))⟩
/- 36: _law_vector(numbers, at, size, most)  slots: 0 numbers, 1 at, 2 size, 3 most, 4 k -/
def i__law_vector : Fn := ⟨5, 4, (.cons (.ret (.blt .tuple (.cons (.comp (.blt .max2 (.cons (.c (.int 0)) (.cons (.bin .sub (.bin .mod (.blt .int (.cons (.subv 0 (.bin .add (.v 1) (.v 4))) .nil)) (.bin .add (.v 3) (.c (.int 3)))) (.c (.int 2))) .nil))) (.v 4) [4] (.rng1 (.v 2)) .no) .nil)))
 .nil)⟩
/- 37: _law_forms(numbers, at, many, size, most, high)  slots: 0 numbers, 1 at, 2 many, 3 size, 4 most, 5 high, 6 forms, 7 k, 8 start, 9 vector -/
def i__law_forms : Fn := ⟨10, 6, (.cons (.new 6 (.lst .nil))
 (.cons (.for_ (.v 7) (.rng1 (.v 2)) [7, 8, 9]
 (.cons (.set 8 (.bin .add (.v 1) (.bin .mul (.c (.int 5)) (.v 7))))
 (.cons (.set 9 (.call 36 (.cons (.v 0) (.cons (.v 8) (.cons (.v 3) (.cons (.v 4) .nil))))))
 (.cons (.ite (.cmp .eq (.blt .sum (.cons (.v 9) .nil)) (.c (.int 0)))
 (.cons (.set 9 (.call 28 (.cons (.v 3) (.cons (.bin .mod (.blt .int (.cons (.subv 0 (.bin .add (.v 8) (.c (.int 4)))) .nil)) (.v 3)) .nil))))
 .nil)
 .nil)
 (.cons (.app 6 (.tup (.cons (.v 9) (.cons (.bin .add (.c (.int 1)) (.bin .mod (.blt .int (.cons (.subv 0 (.bin .add (.v 8) (.c (.int 4)))) .nil)) (.v 5))) .nil))))
 .nil)))))
 (.cons (.frz 6)
 (.cons (.ret (.blt .tuple (.cons (.v 6) .nil)))
 .nil))))⟩
/- 38: _law_heads(numbers, at, many, size, most, high)  slots: 0 numbers, 1 at, 2 many, 3 size, 4 most, 5 high, 6 heads, 7 k, 8 start -/
def i__law_heads : Fn := ⟨9, 6, (.cons (.new 6 (.lst (.cons (.tup (.cons (.bin .mul (.tup (.cons (.c (.int 0)) .nil)) (.v 3)) (.cons (.c (.int 0)) .nil))) .nil)))
 (.cons (.for_ (.v 7) (.rng1 (.v 2)) [7, 8]
 (.cons (.set 8 (.bin .add (.v 1) (.bin .mul (.c (.int 5)) (.v 7))))
 (.cons (.app 6 (.tup (.cons (.call 36 (.cons (.v 0) (.cons (.v 8) (.cons (.v 3) (.cons (.v 4) .nil))))) (.cons (.bin .mod (.blt .int (.cons (.subv 0 (.bin .add (.v 8) (.c (.int 4)))) .nil)) (.v 5)) .nil))))
 .nil)))
 (.cons (.frz 6)
 (.cons (.ret (.blt .tuple (.cons (.v 6) .nil)))
 .nil))))⟩
/- 39: _law_told(door, first, second, goods)  slots: 0 door, 1 first, 2 second, 3 goods, 4 e -/
def i__law_told : Fn := ⟨5, 4, (.cons (.tryE (.cons (.ite (.cmp .eq (.v 0) (.c (.int 0)))
 (.cons (.ret (.tup (.cons (.c (.bl false)) (.cons (.call 21 (.cons (.v 1) (.cons (.v 2) .nil))) .nil))))
 .nil)
 .nil)
 (.cons (.ite (.cmp .eq (.v 0) (.c (.int 1)))
 (.cons (.ret (.tup (.cons (.c (.bl false)) (.cons (.call 22 (.cons (.v 1) (.cons (.v 2) .nil))) .nil))))
 .nil)
 .nil)
 (.cons (.ite (.cmp .eq (.v 0) (.c (.int 2)))
 (.cons (.ret (.tup (.cons (.c (.bl false)) (.cons (.call 24 (.cons (.v 1) (.cons (.v 3) .nil))) .nil))))
 .nil)
 .nil)
 (.cons (.ret (.tup (.cons (.c (.bl false)) (.cons (.call 25 (.cons (.v 1) .nil)) .nil))))
 .nil))))
 (.cons 1 4 (.tup (.cons (.c (.bl true)) (.cons (.tup (.cons (.c (.str "number")) (.cons (.fld 0) (.cons (.fld 1) (.cons (.fld 2) .nil))))) .nil))) (.cons 3 4 (.tup (.cons (.c (.bl true)) (.cons (.tup (.cons (.c (.str "tariff")) (.cons (.fld 0) .nil))) .nil))) (.cons 2 4 (.tup (.cons (.c (.bl true)) (.cons (.tup (.cons (.c (.str "vector")) (.cons (.fld 0) .nil))) .nil))) (.cons 4 4 (.tup (.cons (.c (.bl true)) (.cons (.tup (.cons (.c (.str "many")) (.cons (.fld 0) .nil))) .nil))) (.cons 5 4 (.tup (.cons (.c (.bl true)) (.cons (.tup (.cons (.c (.str "wide")) (.cons (.fld 0) .nil))) .nil))) .nil))))))
 .nil)⟩
/- 40: _law_better(first, second)  slots: 0 first, 1 second -/
def i__law_better : Fn := ⟨2, 2, (.cons (.ite (.cmp .ne (.subv 0 (.c (.int 1))) (.subv 1 (.c (.int 1))))
 (.cons (.ret (.tup (.cons (.c (.bl true)) (.cons (.tup (.cons (.c (.str "tariff")) (.cons (.c (.str "forms")) .nil))) .nil))))
 .nil)
 .nil)
 (.cons (.ite (.cmp .gt (.bin .sub (.bin .add (.blt .len (.cons (.subv 0 (.c (.int 0))) .nil)) (.blt .len (.cons (.subv 1 (.c (.int 0))) .nil))) (.c (.int 1))) (.c (.int 400)))
 (.cons (.ret (.tup (.cons (.c (.bl true)) (.cons (.tup (.cons (.c (.str "many")) (.cons (.c (.int 400)) .nil))) .nil))))
 .nil)
 .nil)
 (.cons (.ret (.tup (.cons (.c (.bl false)) (.cons (.tup (.cons (.bin .add (.subv 0 (.c (.int 0))) (.slc (.subv 1 (.c (.int 0))) (.so (.c (.int 1))) .no)) (.cons (.subv 0 (.c (.int 1))) .nil))) .nil))))
 .nil)))⟩
/- 41: _law_apart(first, second)  slots: 0 first, 1 second, 2 heads, 3 head, 4 other -/
def i__law_apart : Fn := ⟨5, 2, (.cons (.ite (.cmp .gt (.bin .mul (.blt .len (.cons (.subv 0 (.c (.int 0))) .nil)) (.blt .len (.cons (.subv 1 (.c (.int 0))) .nil))) (.c (.int 400)))
 (.cons (.ret (.tup (.cons (.c (.bl true)) (.cons (.tup (.cons (.c (.str "many")) (.cons (.c (.int 400)) .nil))) .nil))))
 .nil)
 .nil)
 (.cons (.ite (.cmp .gt (.bin .add (.blt .len (.cons (.subv 0 (.c (.int 1))) .nil)) (.blt .len (.cons (.subv 1 (.c (.int 1))) .nil))) (.c (.int 12)))
 (.cons (.ret (.tup (.cons (.c (.bl true)) (.cons (.tup (.cons (.c (.str "many")) (.cons (.c (.int 12)) .nil))) .nil))))
 .nil)
 .nil)
 (.cons (.new 2 (.lst .nil))
 (.cons (.for_ (.v 3) (.seq (.subv 0 (.c (.int 0)))) [3, 4]
 (.cons (.ext 2 (.comp (.tup (.cons (.call 29 (.cons (.subv 3 (.c (.int 0))) (.cons (.subv 4 (.c (.int 0))) .nil))) (.cons (.bin .add (.subv 3 (.c (.int 1))) (.subv 4 (.c (.int 1)))) .nil))) (.v 4) [4] (.seq (.subv 1 (.c (.int 0)))) .no))
 .nil))
 (.cons (.frz 2)
 (.cons (.for_ (.v 3) (.seq (.v 2)) [3]
 (.cons (.ite (.bor (.cons (.cmp .gt (.blt .max1 (.cons (.subv 3 (.c (.int 0))) .nil)) (.c (.int 1000))) (.cons (.cmp .gt (.subv 3 (.c (.int 1))) (.bin .pow (.c (.int 10)) (.c (.int 8)))) .nil)))
 (.cons (.ret (.tup (.cons (.c (.bl true)) (.cons (.tup (.cons (.c (.str "tariff")) (.cons (.c (.str "heads")) .nil))) .nil))))
 .nil)
 .nil)
 .nil))
 (.cons (.frz 2)
 (.cons (.ret (.tup (.cons (.c (.bl false)) (.cons (.tup (.cons (.blt .tuple (.cons (.v 2) .nil)) (.cons (.bin .add (.subv 0 (.c (.int 1))) (.subv 1 (.c (.int 1)))) .nil))) .nil))))
 .nil))))))))⟩
/- 42: _law_project(tariff, goods)  slots: 0 tariff, 1 goods, 2 size, 3 least, 4 good, 5 found, 6 rows, 7 part, 8 row, 9 entries -/
def i__law_project : Fn := ⟨10, 2, (.cons (.set 2 (.blt .len (.cons (.sub (.sub (.subv 0 (.c (.int 0))) (.c (.int 0))) (.c (.int 0))) .nil)))
 (.cons (.ite (.bor (.cons (.not (.blt .isTuple (.cons (.v 1) .nil))) (.cons (.cmp .eq (.blt .len (.cons (.v 1) .nil)) (.c (.int 0))) .nil)))
 (.cons (.ret (.tup (.cons (.c (.bl true)) (.cons (.tup (.cons (.c (.str "vector")) (.cons (.v 1) .nil))) .nil))))
 .nil)
 .nil)
 (.cons (.set 3 (.c (.int 0)))
 (.cons (.for_ (.v 4) (.seq (.v 1)) [4]
 (.cons (.ite (.bor (.cons (.not (.blt .isInt (.cons (.v 4) .nil))) (.cons (.blt .isBool (.cons (.v 4) .nil)) (.cons (.cmp .lt (.v 4) (.v 3)) (.cons (.cmp .ge (.v 4) (.v 2)) .nil)))))
 (.cons (.ret (.tup (.cons (.c (.bl true)) (.cons (.tup (.cons (.c (.str "number")) (.cons (.v 4) (.cons (.v 3) (.cons (.bin .sub (.v 2) (.c (.int 1))) .nil))))) .nil))))
 .nil)
 .nil)
 (.cons (.set 3 (.bin .add (.v 4) (.c (.int 1))))
 .nil)))
 (.cons (.new 5 (.lst .nil))
 (.cons (.for_ (.v 6) (.seq (.v 0)) [4, 6, 7, 8, 9]
 (.cons (.new 7 (.lst .nil))
 (.cons (.for_ (.v 8) (.seq (.v 6)) [4, 8, 9]
 (.cons (.set 9 (.blt .tuple (.cons (.comp (.sub (.subv 8 (.c (.int 0))) (.v 4)) (.v 4) [4] (.seq (.v 1)) .no) .nil)))
 (.cons (.ite (.cmp .eq (.blt .sum (.cons (.v 9) .nil)) (.blt .sum (.cons (.subv 8 (.c (.int 0))) .nil)))
 (.cons (.app 7 (.tup (.cons (.v 9) (.cons (.subv 8 (.c (.int 1))) .nil))))
 .nil)
 .nil)
 .nil)))
 (.cons (.frz 7)
 (.cons (.app 5 (.blt .tuple (.cons (.v 7) .nil)))
 .nil)))))
 (.cons (.frz 5)
 (.cons (.ret (.tup (.cons (.c (.bl false)) (.cons (.blt .tuple (.cons (.v 5) .nil)) .nil))))
 .nil))))))))⟩
/- 43: _law_trim(tariff)  slots: 0 tariff, 1 heads, 2 box, 3 head, 4 most, 5 kept, 6 k, 7 at, 8 others, 9 other -/
def i__law_trim : Fn := ⟨10, 1, (.cons (.set 1 (.subv 0 (.c (.int 0))))
 (.cons (.set 2 (.sub (.subv 1 (.c (.int 0))) (.c (.int 0))))
 (.cons (.for_ (.v 3) (.seq (.v 1)) [3, 6]
 (.cons (.set 2 (.blt .tuple (.cons (.comp (.blt .max2 (.cons (.subv 2 (.v 6)) (.cons (.sub (.subv 3 (.c (.int 0))) (.v 6)) .nil))) (.v 6) [6] (.rng1 (.blt .len (.cons (.v 2) .nil))) .no) .nil)))
 .nil))
 (.cons (.ite (.cmp .gt (.call 32 (.cons (.v 2) .nil)) (.c (.int 2000)))
 (.cons (.ret (.tup (.cons (.c (.bl true)) (.cons (.tup (.cons (.c (.str "wide")) (.cons (.c (.int 2000)) .nil))) .nil))))
 .nil)
 .nil)
 (.cons (.set 4 (.call 34 (.cons (.subv 0 (.c (.int 1))) (.cons (.v 2) .nil))))
 (.cons (.set 5 (.lrng (.rng1 (.blt .len (.cons (.v 1) .nil)))))
 (.cons (.for_ (.v 6) (.rng1 (.bin .sub (.blt .len (.cons (.v 1) .nil)) (.c (.int 1)))) [6, 7, 8, 9]
 (.cons (.set 7 (.bin .sub (.bin .sub (.blt .len (.cons (.v 1) .nil)) (.c (.int 1))) (.v 6)))
 (.cons (.set 8 (.comp (.v 9) (.v 9) [9] (.seq (.v 5)) (.so (.cmp .ne (.v 9) (.v 7)))))
 (.cons (.ite (.cmp .ge (.call 35 (.cons (.comp (.subv 1 (.v 9)) (.v 9) [9] (.seq (.v 8)) .no) (.cons (.v 4) (.cons (.sub (.subv 1 (.v 7)) (.c (.int 0))) .nil)))) (.sub (.subv 1 (.v 7)) (.c (.int 1))))
 (.cons (.set 5 (.v 8))
 .nil)
 .nil)
 .nil))))
 (.cons (.ret (.tup (.cons (.c (.bl false)) (.cons (.tup (.cons (.blt .tuple (.cons (.comp (.subv 1 (.v 9)) (.v 9) [9] (.seq (.v 5)) .no) .nil)) (.cons (.subv 0 (.c (.int 1))) .nil))) .nil))))
 .nil))))))))⟩
/- 44: _law_needed(tariff)  slots: 0 tariff, 1 at, 2 head, 3 others -/
def i__law_needed : Fn := ⟨4, 1, (.cons (.for_ (.v 1) (.rng2 (.c (.int 1)) (.blt .len (.cons (.subv 0 (.c (.int 0))) .nil))) [1, 2, 3]
 (.cons (.set 2 (.sub (.subv 0 (.c (.int 0))) (.v 1)))
 (.cons (.set 3 (.bin .add (.slc (.subv 0 (.c (.int 0))) .no (.so (.v 1))) (.slc (.subv 0 (.c (.int 0))) (.so (.bin .add (.v 1) (.c (.int 1)))) .no)))
 (.cons (.ite (.cmp .ge (.call 35 (.cons (.v 3) (.cons (.call 34 (.cons (.subv 0 (.c (.int 1))) (.cons (.subv 2 (.c (.int 0))) .nil))) (.cons (.subv 2 (.c (.int 0))) .nil)))) (.subv 2 (.c (.int 1))))
 (.cons (.ret (.c (.bl false)))
 .nil)
 .nil)
 .nil))))
 (.cons (.ret (.c (.bl true)))
 .nil))⟩
/- 45: _law_many(many, size)  slots: 0 many, 1 size, 2 heads, 3 k, 4 good -/
def i__law_many : Fn := ⟨5, 2, (.cons (.new 2 (.lst (.cons (.tup (.cons (.bin .mul (.tup (.cons (.c (.int 0)) .nil)) (.v 1)) (.cons (.c (.int 0)) .nil))) .nil)))
 (.cons (.for_ (.v 3) (.rng2 (.c (.int 1)) (.v 0)) [3, 4]
 (.cons (.app 2 (.tup (.cons (.blt .tuple (.cons (.comp (.bin .mod (.blt .int (.cons (.bin .mul (.v 3) (.bin .add (.v 4) (.c (.int 2)))) .nil)) (.c (.int 9))) (.v 4) [4] (.rng1 (.v 1)) .no) .nil)) (.cons (.bin .mod (.blt .int (.cons (.bin .mul (.v 3) (.c (.int 7))) .nil)) (.c (.int 50))) .nil))))
 .nil))
 (.cons (.frz 2)
 (.cons (.ret (.blt .tuple (.cons (.v 2) .nil)))
 .nil))))⟩
/- 46: _law_pair(numbers, size)  slots: 0 numbers, 1 size, 2 heads, 3 others, 4 forms, 5 more, 6 style, 7 many, 8 great, 9 k -/
def i__law_pair : Fn := ⟨10, 2, (.cons (.set 2 (.call 38 (.cons (.v 0) (.cons (.c (.int 8)) (.cons (.bin .mod (.blt .int (.cons (.subv 0 (.c (.int 1))) .nil)) (.c (.int 4))) (.cons (.v 1) (.cons (.c (.int 3)) (.cons (.c (.int 21)) .nil))))))))
 (.cons (.set 3 (.call 38 (.cons (.v 0) (.cons (.c (.int 33)) (.cons (.bin .mod (.blt .int (.cons (.subv 0 (.c (.int 3))) .nil)) (.c (.int 4))) (.cons (.v 1) (.cons (.c (.int 3)) (.cons (.c (.int 21)) .nil))))))))
 (.cons (.set 4 (.call 37 (.cons (.v 0) (.cons (.c (.int 23)) (.cons (.bin .mod (.blt .int (.cons (.subv 0 (.c (.int 2))) .nil)) (.c (.int 3))) (.cons (.v 1) (.cons (.c (.int 3)) (.cons (.c (.int 15)) .nil))))))))
 (.cons (.set 5 (.call 37 (.cons (.v 0) (.cons (.c (.int 48)) (.cons (.bin .mod (.blt .int (.cons (.subv 0 (.c (.int 4))) .nil)) (.c (.int 3))) (.cons (.v 1) (.cons (.c (.int 3)) (.cons (.c (.int 15)) .nil))))))))
 (.cons (.ite (.cmp .eq (.bin .mod (.blt .int (.cons (.subv 0 (.c (.int 5))) .nil)) (.c (.int 2))) (.c (.int 1)))
 (.cons (.set 5 (.v 4))
 .nil)
 .nil)
 (.cons (.set 6 (.bin .mod (.blt .int (.cons (.subv 0 (.c (.int 6))) .nil)) (.c (.int 8))))
 (.cons (.ite (.bor (.cons (.cmp .eq (.v 6) (.c (.int 1))) (.cons (.cmp .eq (.v 6) (.c (.int 2))) .nil)))
 (.cons (.set 7 (.sub (.lst (.cons (.c (.int 1)) (.cons (.c (.int 2)) (.cons (.c (.int 4)) (.cons (.c (.int 5)) (.cons (.c (.int 8)) (.cons (.c (.int 10)) (.cons (.c (.int 16)) (.cons (.c (.int 20)) (.cons (.c (.int 25)) (.cons (.c (.int 40)) (.cons (.c (.int 50)) (.cons (.c (.int 80)) (.cons (.c (.int 100)) (.cons (.c (.int 200)) (.cons (.c (.int 400)) .nil)))))))))))))))) (.bin .mod (.blt .int (.cons (.subv 0 (.c (.int 7))) .nil)) (.c (.int 15)))))
 (.cons (.set 2 (.call 45 (.cons (.v 7) (.cons (.v 1) .nil))))
 (.cons (.set 3 (.sub (.lst (.cons (.bin .fdiv (.c (.int 400)) (.v 7)) (.cons (.bin .add (.bin .fdiv (.c (.int 400)) (.v 7)) (.c (.int 1))) (.cons (.bin .sub (.c (.int 401)) (.v 7)) (.cons (.bin .sub (.c (.int 402)) (.v 7)) .nil))))) (.bin .mod (.blt .int (.cons (.subv 0 (.c (.int 8))) .nil)) (.c (.int 4)))))
 (.cons (.set 3 (.call 45 (.cons (.blt .min2 (.cons (.c (.int 400)) (.cons (.v 3) .nil))) (.cons (.v 1) .nil))))
 (.cons (.ite (.cmp .eq (.bin .mod (.blt .int (.cons (.subv 0 (.c (.int 9))) .nil)) (.c (.int 2))) (.c (.int 1)))
 (.cons (.set 4 (.bin .mul (.tup (.cons (.tup (.cons (.call 28 (.cons (.v 1) (.cons (.c (.int 0)) .nil))) (.cons (.c (.int 2)) .nil))) .nil)) (.c (.int 6))))
 (.cons (.set 5 (.bin .mul (.tup (.cons (.tup (.cons (.call 28 (.cons (.v 1) (.cons (.c (.int 0)) .nil))) (.cons (.c (.int 2)) .nil))) .nil)) (.bin .add (.c (.int 6)) (.bin .mod (.blt .int (.cons (.subv 0 (.c (.int 10))) .nil)) (.c (.int 2))))))
 .nil))
 .nil)
 .nil)))))
 .nil)
 (.cons (.ite (.cmp .eq (.v 6) (.c (.int 3)))
 (.cons (.set 8 (.blt .tuple (.cons (.comp (.bin .sub (.c (.int 1000)) (.bin .mod (.blt .int (.cons (.subv 0 (.bin .add (.c (.int 11)) (.v 9))) .nil)) (.c (.int 3)))) (.v 9) [9] (.rng1 (.v 1)) .no) .nil)))
 (.cons (.set 2 (.bin .add (.v 2) (.tup (.cons (.tup (.cons (.v 8) (.cons (.bin .sub (.bin .pow (.c (.int 10)) (.c (.int 8))) (.bin .mod (.blt .int (.cons (.subv 0 (.c (.int 14))) .nil)) (.c (.int 3)))) .nil))) .nil))))
 (.cons (.set 3 (.bin .add (.v 3) (.tup (.cons (.tup (.cons (.call 28 (.cons (.v 1) (.cons (.bin .mod (.blt .int (.cons (.subv 0 (.c (.int 15))) .nil)) (.v 1)) .nil))) (.cons (.bin .mod (.blt .int (.cons (.subv 0 (.c (.int 16))) .nil)) (.c (.int 3))) .nil))) .nil))))
 .nil)))
 .nil)
 (.cons (.ret (.tup (.cons (.tup (.cons (.v 2) (.cons (.v 4) .nil))) (.cons (.tup (.cons (.v 3) (.cons (.v 5) .nil))) .nil))))
 .nil)))))))))⟩
/- 47: _law_heady(numbers, size)  slots: 0 numbers, 1 size, 2 heads, 3 forms, 4 k, 5 start, 6 head, 7 form, 8 at, 9 part, 10 great -/
def i__law_heady : Fn := ⟨11, 2, (.cons (.set 2 (.call 38 (.cons (.v 0) (.cons (.c (.int 8)) (.cons (.bin .mod (.blt .int (.cons (.subv 0 (.c (.int 1))) .nil)) (.c (.int 4))) (.cons (.v 1) (.cons (.c (.int 3)) (.cons (.c (.int 21)) .nil))))))))
 (.cons (.set 3 (.call 37 (.cons (.v 0) (.cons (.c (.int 23)) (.cons (.bin .mod (.blt .int (.cons (.subv 0 (.c (.int 2))) .nil)) (.c (.int 3))) (.cons (.v 1) (.cons (.c (.int 3)) (.cons (.c (.int 15)) .nil))))))))
 (.cons (.for_ (.v 4) (.rng1 (.c (.int 2))) [4, 5, 6, 7, 8]
 (.cons (.set 5 (.bin .add (.c (.int 33)) (.bin .mul (.c (.int 4)) (.v 4))))
 (.cons (.set 6 (.subv 2 (.bin .mod (.blt .int (.cons (.subv 0 (.v 5)) .nil)) (.blt .len (.cons (.v 2) .nil)))))
 (.cons (.for_ (.v 7) (.seq (.slc (.v 3) .no (.so (.bin .mod (.blt .int (.cons (.subv 0 (.bin .add (.v 5) (.c (.int 1)))) .nil)) (.c (.int 3)))))) [7]
 (.cons (.set 6 (.tup (.cons (.call 29 (.cons (.subv 6 (.c (.int 0))) (.cons (.subv 7 (.c (.int 0))) .nil))) (.cons (.bin .add (.subv 6 (.c (.int 1))) (.subv 7 (.c (.int 1)))) .nil))))
 .nil))
 (.cons (.set 6 (.tup (.cons (.subv 6 (.c (.int 0))) (.cons (.blt .max2 (.cons (.c (.int 0)) (.cons (.bin .sub (.bin .add (.subv 6 (.c (.int 1))) (.bin .mod (.blt .int (.cons (.subv 0 (.bin .add (.v 5) (.c (.int 2)))) .nil)) (.c (.int 3)))) (.c (.int 1))) .nil))) .nil))))
 (.cons (.set 8 (.bin .add (.c (.int 1)) (.bin .mod (.blt .int (.cons (.subv 0 (.bin .add (.v 5) (.c (.int 3)))) .nil)) (.blt .len (.cons (.v 2) .nil)))))
 (.cons (.set 2 (.bin .add (.bin .add (.slc (.v 2) .no (.so (.v 8))) (.tup (.cons (.v 6) .nil))) (.slc (.v 2) (.so (.v 8)) .no)))
 .nil)))))))
 (.cons (.ite (.band (.cons (.cmp .eq (.bin .mod (.blt .int (.cons (.subv 0 (.c (.int 3))) .nil)) (.c (.int 8))) (.c (.int 1))) (.cons (.cmp .gt (.v 1) (.c (.int 1))) .nil)))
 (.cons (.set 9 (.sub (.lst (.cons (.c (.int 2)) (.cons (.c (.int 4)) (.cons (.c (.int 5)) (.cons (.c (.int 8)) (.cons (.c (.int 10)) (.cons (.c (.int 16)) (.cons (.c (.int 20)) (.cons (.c (.int 25)) (.cons (.c (.int 40)) (.cons (.c (.int 50)) (.cons (.c (.int 80)) (.cons (.c (.int 100)) (.cons (.c (.int 125)) (.cons (.c (.int 200)) (.cons (.c (.int 250)) (.cons (.c (.int 400)) (.cons (.c (.int 500)) (.cons (.c (.int 1000)) .nil))))))))))))))))))) (.bin .mod (.blt .int (.cons (.subv 0 (.c (.int 4))) .nil)) (.c (.int 18)))))
 (.cons (.set 10 (.bin .add (.tup (.cons (.bin .sub (.v 9) (.c (.int 1))) (.cons (.bin .sub (.bin .add (.bin .sub (.bin .fdiv (.c (.int 2000)) (.v 9)) (.c (.int 1))) (.bin .mod (.blt .int (.cons (.subv 0 (.c (.int 5))) .nil)) (.c (.int 3)))) (.c (.int 1))) .nil))) (.bin .mul (.tup (.cons (.c (.int 0)) .nil)) (.bin .sub (.v 1) (.c (.int 2))))))
 (.cons (.set 2 (.tup (.cons (.subv 2 (.c (.int 0))) (.cons (.tup (.cons (.v 10) (.cons (.bin .mod (.blt .int (.cons (.subv 0 (.c (.int 6))) .nil)) (.c (.int 30))) .nil))) .nil))))
 .nil)))
 .nil)
 (.cons (.ret (.tup (.cons (.v 2) (.cons (.v 3) .nil))))
 .nil)))))⟩
/- 48: _law_goods(numbers, size)  slots: 0 numbers, 1 size, 2 goods, 3 at, 4 k -/
def i__law_goods : Fn := ⟨5, 2, (.cons (.new 2 (.comp (.v 4) (.v 4) [4] (.rng1 (.v 1)) (.so (.cmp .eq (.bin .mod (.blt .int (.cons (.subv 0 (.bin .add (.c (.int 10)) (.v 4))) .nil)) (.c (.int 2))) (.c (.int 0))))))
 (.cons (.ite (.cmp .eq (.lenv 2) (.c (.int 0)))
 (.cons (.new 2 (.lst (.cons (.bin .mod (.blt .int (.cons (.subv 0 (.c (.int 13))) .nil)) (.v 1)) .nil)))
 .nil)
 .nil)
 (.cons (.ite (.cmp .eq (.bin .mod (.blt .int (.cons (.subv 0 (.c (.int 14))) .nil)) (.c (.int 2))) (.c (.int 1)))
 (.cons (.set 3 (.bin .mod (.blt .int (.cons (.subv 0 (.c (.int 15))) .nil)) (.lenv 2)))
 (.cons (.put 2 (.v 3) (.sub (.lst (.cons (.neg (.c (.int 1))) (.cons (.v 1) (.cons (.c (.bl true)) (.cons (.c .non) (.cons (.c (.str "0")) (.cons (.subv 2 (.c (.int 0))) (.cons (.bin .add (.v 1) (.subv 0 (.c (.int 16)))) .nil)))))))) (.bin .mod (.blt .int (.cons (.subv 0 (.c (.int 17))) .nil)) (.c (.int 7)))))
 .nil))
 .nil)
 (.cons (.ite (.cmp .eq (.bin .mod (.blt .int (.cons (.subv 0 (.c (.int 18))) .nil)) (.c (.int 8))) (.c (.int 1)))
 (.cons (.ret (.sub (.lst (.cons (.tup .nil) (.cons (.c .non) (.cons (.c (.int 0)) (.cons (.c (.str "0")) (.cons (.c (.bl true)) .nil)))))) (.bin .mod (.blt .int (.cons (.subv 0 (.c (.int 19))) .nil)) (.c (.int 5)))))
 .nil)
 .nil)
 (.cons (.frz 2)
 (.cons (.ret (.blt .tuple (.cons (.v 2) .nil)))
 .nil))))))⟩
/- 49: _law_split(first, second, basket)  slots: 0 first, 1 second, 2 basket, 3 left, 4 right, 5 best, 6 part, 7 other -/
def i__law_split : Fn := ⟨8, 3, (.cons (.set 3 (.call 34 (.cons (.subv 0 (.c (.int 1))) (.cons (.v 2) .nil))))
 (.cons (.set 4 (.call 34 (.cons (.subv 1 (.c (.int 1))) (.cons (.v 2) .nil))))
 (.cons (.set 5 (.c (.int 0)))
 (.cons (.for_ (.v 6) (.seq (.call 33 (.cons (.v 2) .nil))) [6, 7]
 (.cons (.set 7 (.call 35 (.cons (.subv 1 (.c (.int 0))) (.cons (.v 4) (.cons (.call 30 (.cons (.v 2) (.cons (.v 6) .nil))) .nil)))))
 (.cons (.set 5 (.blt .max2 (.cons (.v 5) (.cons (.bin .add (.call 35 (.cons (.subv 0 (.c (.int 0))) (.cons (.v 3) (.cons (.v 6) .nil)))) (.v 7)) .nil))))
 .nil)))
 (.cons (.ret (.v 5))
 .nil)))))⟩
/- 50: _law_due_off(door, tariff, second, goods, basket)  slots: 0 door, 1 tariff, 2 second, 3 goods, 4 basket, 5 wide, 6 one, 7 k -/
def i__law_due_off : Fn := ⟨8, 5, (.cons (.ite (.cmp .eq (.v 0) (.c (.int 1)))
 (.cons (.ret (.call 49 (.cons (.v 1) (.cons (.v 2) (.cons (.v 4) .nil)))))
 .nil)
 .nil)
 (.cons (.set 5 (.v 4))
 (.cons (.ite (.cmp .eq (.v 0) (.c (.int 2)))
 (.cons (.set 5 (.blt .tuple (.cons (.comp (.bin .mul (.subv 4 (.v 7)) (.blt .int (.cons (.inv false (.v 7) 3) .nil))) (.v 7) [7] (.rng1 (.blt .len (.cons (.v 4) .nil))) .no) .nil)))
 .nil)
 .nil)
 (.cons (.set 6 (.call 35 (.cons (.subv 1 (.c (.int 0))) (.cons (.call 34 (.cons (.subv 1 (.c (.int 1))) (.cons (.v 5) .nil))) (.cons (.v 5) .nil)))))
 (.cons (.ite (.cmp .gt (.v 0) (.c (.int 0)))
 (.cons (.ret (.v 6))
 .nil)
 .nil)
 (.cons (.ret (.blt .max2 (.cons (.v 6) (.cons (.call 35 (.cons (.subv 2 (.c (.int 0))) (.cons (.call 34 (.cons (.subv 2 (.c (.int 1))) (.cons (.v 4) .nil))) (.cons (.v 4) .nil)))) .nil))))
 .nil))))))⟩
/- 51: law(script)  slots: 0 script, 1 numbers, 2 size, 3 pair, 4 first, 5 second, 6 trimmed, 7 goods, 8 basket, 9 dues, 10 door, 11 tariff, 12 due, 13 asked, 14 k, 15 good -/
def i_law : Fn := ⟨16, 1, (.cons (.set 1 (.call 26 (.cons (.v 0) (.cons (.c (.int 0)) (.cons (.c (.int 60)) .nil)))))
 (.cons (.set 2 (.bin .add (.c (.int 1)) (.bin .mod (.blt .int (.cons (.subv 1 (.c (.int 0))) .nil)) (.c (.int 3)))))
 (.cons (.set 3 (.call 46 (.cons (.v 1) (.cons (.v 2) .nil))))
 (.cons (.set 4 (.subv 3 (.c (.int 0))))
 (.cons (.set 5 (.subv 3 (.c (.int 1))))
 (.cons (.set 6 (.call 47 (.cons (.call 26 (.cons (.v 0) (.cons (.c (.int 1)) (.cons (.c (.int 44)) .nil)))) (.cons (.v 2) .nil))))
 (.cons (.set 1 (.call 26 (.cons (.v 0) (.cons (.c (.int 2)) (.cons (.c (.int 24)) .nil)))))
 (.cons (.set 7 (.call 48 (.cons (.v 1) (.cons (.v 2) .nil))))
 (.cons (.set 8 (.blt .tuple (.cons (.comp (.bin .mod (.blt .int (.cons (.subv 1 (.bin .add (.c (.int 20)) (.v 14))) .nil)) (.sub (.lst (.cons (.c (.int 40)) (.cons (.c (.int 8)) (.cons (.c (.int 4)) .nil)))) (.bin .sub (.v 2) (.c (.int 1))))) (.v 14) [14] (.rng1 (.v 2)) .no) .nil)))
 (.cons (.set 9 (.lst (.cons (.call 40 (.cons (.v 4) (.cons (.v 5) .nil))) (.cons (.call 41 (.cons (.v 4) (.cons (.v 5) .nil))) (.cons (.call 42 (.cons (.v 4) (.cons (.v 7) .nil))) (.cons (.call 43 (.cons (.v 6) .nil)) .nil))))))
 (.cons (.for_ (.v 10) (.rng1 (.c (.int 4))) [10, 11, 12, 13, 15]
 (.cons (.set 11 (.v 4))
 (.cons (.ite (.cmp .eq (.v 10) (.c (.int 3)))
 (.cons (.set 11 (.v 6))
 .nil)
 .nil)
 (.cons (.set 12 (.subv 9 (.v 10)))
 (.cons (.ite (.not (.call 27 (.cons (.call 39 (.cons (.v 10) (.cons (.v 11) (.cons (.v 5) (.cons (.v 7) .nil))))) (.cons (.v 12) .nil))))
 (.cons (.ret (.c (.bl false)))
 .nil)
 .nil)
 (.cons (.ite (.not (.subv 12 (.c (.int 0))))
 (.cons (.set 13 (.v 8))
 (.cons (.ite (.cmp .eq (.v 10) (.c (.int 2)))
 (.cons (.set 13 (.blt .tuple (.cons (.comp (.subv 8 (.v 15)) (.v 15) [15] (.seq (.v 7)) .no) .nil)))
 .nil)
 .nil)
 (.cons (.ite (.not (.call 27 (.cons (.call 20 (.cons (.subv 12 (.c (.int 1))) (.cons (.v 13) .nil))) (.cons (.call 50 (.cons (.v 10) (.cons (.v 11) (.cons (.v 5) (.cons (.v 7) (.cons (.v 8) .nil)))))) .nil))))
 (.cons (.ret (.c (.bl false)))
 .nil)
 .nil)
 .nil)))
 .nil)
 .nil))))))
 (.cons (.ret (.bor (.cons (.sub (.subv 9 (.c (.int 3))) (.c (.int 0))) (.cons (.call 44 (.cons (.sub (.subv 9 (.c (.int 3))) (.c (.int 1))) .nil)) .nil))))
 .nil))))))))))))⟩
def glL : List (Str × P) := [("MOST_GOODS", (.int 4)), ("MOST_COUNT", (.int 1000000000000000000)), ("MOST_UNITS", (.int 20)), ("MOST_TARIFF_HEADS", (.int 400)), ("MOST_FORMS", (.int 12)), ("MOST_HEAD_OFF", (.int 100000000)), ("MOST_HEAD_COUNT", (.int 1000)), ("MOST_FORM_OFF", (.int 1000000)), ("MOST_CELLS", (.int 2000))]
def G (k : Nat) : P := (glL[k]?.map (·.2)).getD .non
def fnL : List Fn := [i_is_integer, i_is_number, i_zero, i_plus, i_minus, i_top, i_total, i_fits, i_cells, i_place, i_vectors_within, i_is_vector, i_check_vector, i_first_size, i_is_row, i_is_standing, i_check_tariff, i_check_two, i_table, i_best_off, i_off_of, i_better, i_apart, i_picked, i_project, i_trim, i__law_numbers, i__law_same, i__law_unit, i__law_plus, i__law_minus, i__law_fits, i__law_cells, i__law_members, i__law_most, i__law_off, i__law_vector, i__law_forms, i__law_heads, i__law_told, i__law_better, i__law_apart, i__law_project, i__law_trim, i__law_needed, i__law_many, i__law_pair, i__law_heady, i__law_goods, i__law_split, i__law_due_off, i_law]
def D (f : Nat) : Option Fn := fnL[f]?
theorem c_is_integer (n : Nat) (xs : List P) : callF D G (n + 1) 0 xs = run (callF D G n) G i_is_integer xs := rfl
theorem c_is_number (n : Nat) (xs : List P) : callF D G (n + 1) 1 xs = run (callF D G n) G i_is_number xs := rfl
theorem c_zero (n : Nat) (xs : List P) : callF D G (n + 1) 2 xs = run (callF D G n) G i_zero xs := rfl
theorem c_plus (n : Nat) (xs : List P) : callF D G (n + 1) 3 xs = run (callF D G n) G i_plus xs := rfl
theorem c_minus (n : Nat) (xs : List P) : callF D G (n + 1) 4 xs = run (callF D G n) G i_minus xs := rfl
theorem c_top (n : Nat) (xs : List P) : callF D G (n + 1) 5 xs = run (callF D G n) G i_top xs := rfl
theorem c_total (n : Nat) (xs : List P) : callF D G (n + 1) 6 xs = run (callF D G n) G i_total xs := rfl
theorem c_fits (n : Nat) (xs : List P) : callF D G (n + 1) 7 xs = run (callF D G n) G i_fits xs := rfl
theorem c_cells (n : Nat) (xs : List P) : callF D G (n + 1) 8 xs = run (callF D G n) G i_cells xs := rfl
theorem c_place (n : Nat) (xs : List P) : callF D G (n + 1) 9 xs = run (callF D G n) G i_place xs := rfl
theorem c_vectors_within (n : Nat) (xs : List P) : callF D G (n + 1) 10 xs = run (callF D G n) G i_vectors_within xs := rfl
theorem c_is_vector (n : Nat) (xs : List P) : callF D G (n + 1) 11 xs = run (callF D G n) G i_is_vector xs := rfl
theorem c_check_vector (n : Nat) (xs : List P) : callF D G (n + 1) 12 xs = run (callF D G n) G i_check_vector xs := rfl
theorem c_first_size (n : Nat) (xs : List P) : callF D G (n + 1) 13 xs = run (callF D G n) G i_first_size xs := rfl
theorem c_is_row (n : Nat) (xs : List P) : callF D G (n + 1) 14 xs = run (callF D G n) G i_is_row xs := rfl
theorem c_is_standing (n : Nat) (xs : List P) : callF D G (n + 1) 15 xs = run (callF D G n) G i_is_standing xs := rfl
theorem c_check_tariff (n : Nat) (xs : List P) : callF D G (n + 1) 16 xs = run (callF D G n) G i_check_tariff xs := rfl
theorem c_check_two (n : Nat) (xs : List P) : callF D G (n + 1) 17 xs = run (callF D G n) G i_check_two xs := rfl
theorem c_table (n : Nat) (xs : List P) : callF D G (n + 1) 18 xs = run (callF D G n) G i_table xs := rfl
theorem c_best_off (n : Nat) (xs : List P) : callF D G (n + 1) 19 xs = run (callF D G n) G i_best_off xs := rfl
theorem c_off_of (n : Nat) (xs : List P) : callF D G (n + 1) 20 xs = run (callF D G n) G i_off_of xs := rfl
theorem c_better (n : Nat) (xs : List P) : callF D G (n + 1) 21 xs = run (callF D G n) G i_better xs := rfl
theorem c_apart (n : Nat) (xs : List P) : callF D G (n + 1) 22 xs = run (callF D G n) G i_apart xs := rfl
theorem c_picked (n : Nat) (xs : List P) : callF D G (n + 1) 23 xs = run (callF D G n) G i_picked xs := rfl
theorem c_project (n : Nat) (xs : List P) : callF D G (n + 1) 24 xs = run (callF D G n) G i_project xs := rfl
theorem c_trim (n : Nat) (xs : List P) : callF D G (n + 1) 25 xs = run (callF D G n) G i_trim xs := rfl
theorem c__law_numbers (n : Nat) (xs : List P) : callF D G (n + 1) 26 xs = run (callF D G n) G i__law_numbers xs := rfl
theorem c__law_same (n : Nat) (xs : List P) : callF D G (n + 1) 27 xs = run (callF D G n) G i__law_same xs := rfl
theorem c__law_unit (n : Nat) (xs : List P) : callF D G (n + 1) 28 xs = run (callF D G n) G i__law_unit xs := rfl
theorem c__law_plus (n : Nat) (xs : List P) : callF D G (n + 1) 29 xs = run (callF D G n) G i__law_plus xs := rfl
theorem c__law_minus (n : Nat) (xs : List P) : callF D G (n + 1) 30 xs = run (callF D G n) G i__law_minus xs := rfl
theorem c__law_fits (n : Nat) (xs : List P) : callF D G (n + 1) 31 xs = run (callF D G n) G i__law_fits xs := rfl
theorem c__law_cells (n : Nat) (xs : List P) : callF D G (n + 1) 32 xs = run (callF D G n) G i__law_cells xs := rfl
theorem c__law_members (n : Nat) (xs : List P) : callF D G (n + 1) 33 xs = run (callF D G n) G i__law_members xs := rfl
theorem c__law_most (n : Nat) (xs : List P) : callF D G (n + 1) 34 xs = run (callF D G n) G i__law_most xs := rfl
theorem c__law_off (n : Nat) (xs : List P) : callF D G (n + 1) 35 xs = run (callF D G n) G i__law_off xs := rfl
theorem c__law_vector (n : Nat) (xs : List P) : callF D G (n + 1) 36 xs = run (callF D G n) G i__law_vector xs := rfl
theorem c__law_forms (n : Nat) (xs : List P) : callF D G (n + 1) 37 xs = run (callF D G n) G i__law_forms xs := rfl
theorem c__law_heads (n : Nat) (xs : List P) : callF D G (n + 1) 38 xs = run (callF D G n) G i__law_heads xs := rfl
theorem c__law_told (n : Nat) (xs : List P) : callF D G (n + 1) 39 xs = run (callF D G n) G i__law_told xs := rfl
theorem c__law_better (n : Nat) (xs : List P) : callF D G (n + 1) 40 xs = run (callF D G n) G i__law_better xs := rfl
theorem c__law_apart (n : Nat) (xs : List P) : callF D G (n + 1) 41 xs = run (callF D G n) G i__law_apart xs := rfl
theorem c__law_project (n : Nat) (xs : List P) : callF D G (n + 1) 42 xs = run (callF D G n) G i__law_project xs := rfl
theorem c__law_trim (n : Nat) (xs : List P) : callF D G (n + 1) 43 xs = run (callF D G n) G i__law_trim xs := rfl
theorem c__law_needed (n : Nat) (xs : List P) : callF D G (n + 1) 44 xs = run (callF D G n) G i__law_needed xs := rfl
theorem c__law_many (n : Nat) (xs : List P) : callF D G (n + 1) 45 xs = run (callF D G n) G i__law_many xs := rfl
theorem c__law_pair (n : Nat) (xs : List P) : callF D G (n + 1) 46 xs = run (callF D G n) G i__law_pair xs := rfl
theorem c__law_heady (n : Nat) (xs : List P) : callF D G (n + 1) 47 xs = run (callF D G n) G i__law_heady xs := rfl
theorem c__law_goods (n : Nat) (xs : List P) : callF D G (n + 1) 48 xs = run (callF D G n) G i__law_goods xs := rfl
theorem c__law_split (n : Nat) (xs : List P) : callF D G (n + 1) 49 xs = run (callF D G n) G i__law_split xs := rfl
theorem c__law_due_off (n : Nat) (xs : List P) : callF D G (n + 1) 50 xs = run (callF D G n) G i__law_due_off xs := rfl
theorem c_law (n : Nat) (xs : List P) : callF D G (n + 1) 51 xs = run (callF D G n) G i_law xs := rfl
end K50
end

section
set_option Elab.async false
set_option linter.all false
set_option maxRecDepth 100000
set_option maxHeartbeats 1000000
/-! K50M: the algebra of tables, in plain Lean. -/
namespace KM
abbrev Vec := List Int
abbrev Row := Vec × Int
def addV (a b : Vec) : Vec := List.zipWith (· + ·) a b
def subV (a b : Vec) : Vec := List.zipWith (· - ·) a b
def leV (a b : Vec) : Bool := (a.zip b).all fun p => decide (p.1 ≤ p.2)
def nonneg (a : Vec) : Prop := ∀ x ∈ a, 0 ≤ x
def prodB : Vec → Int
  | [] => 1
  | m :: r => (m + 1) * prodB r
def ext1 (l : List Vec) (m : Int) : List Vec := l.flatMap fun v => (List.range (m + 1).toNat).map fun (e : Nat) => v ++ [(e : Int)]
def members (box : Vec) : List Vec := box.foldl ext1 [[]]
def placeV (v box : Vec) : Int := (v.zip box).foldl (fun i p => i * (p.2 + 1) + p.1) 0
/-- within a box -/
def inB (v box : Vec) : Prop := v.length = box.length ∧ nonneg v ∧ leV v box = true
theorem members_snoc (box : Vec) (m : Int) : members (box ++ [m]) = ext1 (members box) m := by
  unfold members
  rw [List.foldl_append]
  rfl
theorem place_snoc {v box : Vec} (h : v.length = box.length) (e m : Int) : placeV (v ++ [e]) (box ++ [m]) = placeV v box * (m + 1) + e := by
  unfold placeV
  rw [List.zip_append h, List.foldl_append]
  rfl
theorem leV_snoc {v box : Vec} (h : v.length = box.length) (e m : Int) : leV (v ++ [e]) (box ++ [m]) = (leV v box && decide (e ≤ m)) := by
  unfold leV
  rw [List.zip_append h, List.all_append]
  simp
theorem flat_len {α β : Type} {f : α → List β} {k : Nat} : ∀ (l : List α), (∀ x ∈ l, (f x).length = k) → (l.flatMap f).length = l.length * k
  | [], _ => by simp
  | a :: l, h => by
    rw [List.flatMap_cons, List.length_append, h a List.mem_cons_self, flat_len l fun x hx => h x (List.mem_cons_of_mem _ hx), List.length_cons, Nat.add_mul, Nat.one_mul, Nat.add_comm]
theorem flat_at {α β : Type} {f : α → List β} {k : Nat} : ∀ (l : List α) (i j : Nat), (∀ x ∈ l, (f x).length = k) → j < k → (l.flatMap f)[i * k + j]? = (l[i]?).bind fun x => (f x)[j]?
  | [], i, j, _, _ => by simp
  | a :: l, 0, j, h, hj => by
    rw [List.flatMap_cons, Nat.zero_mul, Nat.zero_add, List.getElem?_append_left (by rw [h a List.mem_cons_self]; exact hj)]
    simp
  | a :: l, i + 1, j, h, hj => by
    have ha := h a List.mem_cons_self
    have e : (i + 1) * k + j = (f a).length + (i * k + j) := by rw [ha, Nat.add_mul, Nat.one_mul]; omega
    rw [List.flatMap_cons, e, List.getElem?_append_right (by omega), Nat.add_sub_cancel_left, flat_at l i j (fun x hx => h x (List.mem_cons_of_mem _ hx)) hj]
    simp
theorem ext1_block (m : Int) (l : List Vec) : ∀ v ∈ l, ((List.range (m + 1).toNat).map fun (e : Nat) => v ++ [(e : Int)]).length = (m + 1).toNat := fun v _ => by simp
/-- induction from the right -/
theorem rev_ind {α : Type} {Pr : List α → Prop} (h0 : Pr []) (h1 : ∀ l a, Pr l → Pr (l ++ [a])) (l : List α) : Pr l := by
  have key : ∀ l : List α, Pr l.reverse := fun l => by
    induction l with
    | nil => exact h0
    | cons a l ih => rw [List.reverse_cons]; exact h1 _ _ ih
  have := key l.reverse
  rwa [List.reverse_reverse] at this
theorem snoc_cases {α : Type} {n : Nat} (v : List α) (h : v.length = n + 1) : ∃ u e, v = u ++ [e] ∧ u.length = n := by
  have hne : v ≠ [] := fun z => by rw [z] at h; cases h
  exact ⟨v.dropLast, v.getLast hne, (List.dropLast_concat_getLast hne).symm, by rw [List.length_dropLast, h]; rfl⟩
theorem inB_snoc {v box : Vec} {e m : Int} (h : v.length = box.length) : inB (v ++ [e]) (box ++ [m]) ↔ inB v box ∧ 0 ≤ e ∧ e ≤ m := by
  unfold inB nonneg
  rw [leV_snoc h, Bool.and_eq_true, decide_eq_true_iff]
  constructor
  · rintro ⟨_, h2, h3, h4⟩
    exact ⟨⟨h, fun x hx => h2 x (List.mem_append_left _ hx), h3⟩, h2 e (by simp), h4⟩
  · rintro ⟨⟨_, h2, h3⟩, h4, h5⟩
    refine ⟨by simp [h], fun x hx => ?_, h3, h5⟩
    rcases List.mem_append.mp hx with hx | hx
    · exact h2 x hx
    · have : x = e := by simpa using hx
      rw [this]; exact h4
/-- the i-th is at its place -/
theorem members_at : ∀ (box : Vec), nonneg box → ∀ (v : Vec), inB v box → 0 ≤ placeV v box ∧ (members box)[(placeV v box).toNat]? = some v := by
  intro box
  refine rev_ind (Pr := fun box => nonneg box → ∀ (v : Vec), inB v box → 0 ≤ placeV v box ∧ (members box)[(placeV v box).toNat]? = some v) ?_ ?_ box
  · intro _ v h
    have : v = [] := List.length_eq_zero_iff.mp h.1
    subst this
    exact ⟨by decide, rfl⟩
  · intro box m ih hn w hw
    obtain ⟨v, e, rfl, hl⟩ := snoc_cases w (by rw [hw.1, List.length_append]; rfl)
    obtain ⟨h1, h2, h3⟩ := (inB_snoc hl).mp hw
    have hn' : nonneg box := fun x hx => hn x (List.mem_append_left _ hx)
    obtain ⟨p0, p1⟩ := ih hn' v h1
    rw [place_snoc hl, members_snoc]
    have hm : 0 ≤ m := Int.le_trans h2 h3
    have hpos : 0 ≤ placeV v box * (m + 1) := Int.mul_nonneg p0 (by omega)
    refine ⟨by omega, ?_⟩
    have eN : (placeV v box * (m + 1) + e).toNat = (placeV v box).toNat * (m + 1).toNat + e.toNat := by
      have e1 : ((placeV v box).toNat : Int) = placeV v box := Int.toNat_of_nonneg p0
      have e2 : ((m + 1).toNat : Int) = m + 1 := Int.toNat_of_nonneg (by omega)
      have e3 : (e.toNat : Int) = e := Int.toNat_of_nonneg h2
      apply Int.ofNat.inj
      show (((placeV v box * (m + 1) + e).toNat : Nat) : Int) = (((placeV v box).toNat * (m + 1).toNat + e.toNat : Nat) : Int)
      rw [Int.toNat_of_nonneg (by omega), Int.natCast_add, Int.natCast_mul, e1, e2, e3]
    unfold ext1
    rw [eN, flat_at _ _ _ (ext1_block m _) (by omega), p1]
    simp only [Option.bind_some]
    rw [List.getElem?_map, List.getElem?_range (by omega)]
    simp only [Option.map_some, Option.some.injEq, List.append_cancel_left_eq, List.cons.injEq, and_true]
    exact Int.toNat_of_nonneg h2
theorem members_in : ∀ (box : Vec), ∀ v ∈ members box, inB v box := by
  intro box
  refine rev_ind (Pr := fun box => ∀ v ∈ members box, inB v box) ?_ ?_ box
  · intro v h
    have : v = [] := by simpa [members] using h
    subst this
    exact ⟨rfl, (fun _ h => by cases h), rfl⟩
  · intro box m ih w hw
    rw [members_snoc] at hw
    unfold ext1 at hw
    obtain ⟨v, hv, hw⟩ := List.mem_flatMap.mp hw
    obtain ⟨e, he, rfl⟩ := List.mem_map.mp hw
    have he := List.mem_range.mp he
    exact (inB_snoc (ih v hv).1).mpr ⟨ih v hv, by omega, by omega⟩
theorem ext1_len (l : List Vec) (m : Int) : (ext1 l m).length = l.length * (m + 1).toNat := flat_len l (ext1_block m l)
theorem prodB_snoc (box : Vec) (m : Int) : prodB (box ++ [m]) = prodB box * (m + 1) := by
  induction box with
  | nil => simp [prodB]
  | cons a l ih => show (a + 1) * prodB (l ++ [m]) = (a + 1) * prodB l * (m + 1); rw [ih, Int.mul_assoc]
theorem prodB_pos {box : Vec} (h : nonneg box) : 1 ≤ prodB box := by
  induction box with
  | nil => exact Int.le_refl _
  | cons a l ih =>
    have h1 := ih fun x hx => h x (List.mem_cons_of_mem _ hx)
    have h2 := h a List.mem_cons_self
    show 1 ≤ (a + 1) * prodB l
    have : 1 * 1 ≤ (a + 1) * prodB l := Int.mul_le_mul (by omega) h1 (by decide) (by omega)
    simpa using this
theorem members_len : ∀ (box : Vec), nonneg box → ((members box).length : Int) = prodB box := by
  intro box
  refine rev_ind (Pr := fun box => nonneg box → ((members box).length : Int) = prodB box) (fun _ => rfl) ?_ box
  intro box m ih hn
  rw [members_snoc, ext1_len, prodB_snoc, Int.natCast_mul, ih fun x hx => hn x (List.mem_append_left _ hx)]
  rw [Int.toNat_of_nonneg (by have := hn m (by simp); omega)]
/-- at place i -/
theorem place_of : ∀ (box : Vec), nonneg box → ∀ (i : Nat) (v : Vec), (members box)[i]? = some v → placeV v box = i := by
  intro box
  refine rev_ind (Pr := fun box => nonneg box → ∀ (i : Nat) (v : Vec), (members box)[i]? = some v → placeV v box = i) ?_ ?_ box
  · intro _ i v h
    have h : ([[]] : List Vec)[i]? = some v := h
    cases i with
    | zero =>
      have : v = [] := by simpa using h.symm
      subst this
      rfl
    | succ i => simp at h
  · intro box m ih hn i w hw
    have hn' : nonneg box := fun x hx => hn x (List.mem_append_left _ hx)
    have hm : 0 ≤ m := hn m (by simp)
    rw [members_snoc] at hw
    unfold ext1 at hw
    have hk : 0 < (m + 1).toNat := by omega
    have ei : i = (i / (m + 1).toNat) * (m + 1).toNat + i % (m + 1).toNat := by rw [Nat.mul_comm]; exact (Nat.div_add_mod i _).symm
    rw [ei, flat_at _ _ _ (ext1_block m _) (Nat.mod_lt _ hk)] at hw
    obtain ⟨v, hv, hw⟩ := Option.bind_eq_some_iff.mp hw
    rw [List.getElem?_map, List.getElem?_range (Nat.mod_lt _ hk)] at hw
    simp only [Option.map_some, Option.some.injEq] at hw
    subst hw
    have hb := members_in box v (List.mem_of_getElem? hv)
    rw [place_snoc hb.1, ih hn' _ v hv]
    conv => rhs; rw [ei]
    rw [Int.natCast_add, Int.natCast_mul, Int.toNat_of_nonneg (by omega)]
/-! ### vectors -/
def sumV (v : Vec) : Int := v.sum
theorem leV_iff {a b : Vec} (h : a.length = b.length) : leV a b = true ↔ ∀ (i : Nat) (x y : Int), a[i]? = some x → b[i]? = some y → x ≤ y := by
  unfold leV
  rw [List.all_eq_true]
  constructor
  · intro q i x y hx hy
    have := q (x, y) (List.mem_of_getElem? (i := i) (List.getElem?_zip_eq_some.mpr ⟨hx, hy⟩))
    exact of_decide_eq_true this
  · rintro q ⟨x, y⟩ hm
    obtain ⟨i, hi⟩ := List.mem_iff_getElem?.mp hm
    have := List.getElem?_zip_eq_some.mp hi
    exact decide_eq_true (q i x y this.1 this.2)
theorem leV_refl (a : Vec) : leV a a = true := (leV_iff rfl).mpr fun i x y h1 h2 => by rw [h1] at h2; cases h2; exact Int.le_refl _
theorem subV_len {a b : Vec} (h : a.length = b.length) : (subV a b).length = a.length := by unfold subV; rw [List.length_zipWith, h, Nat.min_self]
theorem addV_len {a b : Vec} (h : a.length = b.length) : (addV a b).length = a.length := by unfold addV; rw [List.length_zipWith, h, Nat.min_self]
theorem subV_at {a b : Vec} {i : Nat} {z : Int} (h : (subV a b)[i]? = some z) : ∃ x y, a[i]? = some x ∧ b[i]? = some y ∧ z = x - y := by
  unfold subV at h
  rw [List.getElem?_zipWith] at h
  cases h1 : a[i]? with
  | none => rw [h1] at h; cases h
  | some x =>
    cases h2 : b[i]? with
    | none => rw [h1, h2] at h; cases h
    | some y => rw [h1, h2] at h; exact ⟨x, y, rfl, rfl, (Option.some.inj h).symm⟩
theorem nonneg_iff {a : Vec} : nonneg a ↔ ∀ (i : Nat) (x : Int), a[i]? = some x → 0 ≤ x := by
  constructor
  · intro h i x hx
    exact h x (List.mem_of_getElem? hx)
  · intro h x hx
    obtain ⟨i, hi⟩ := List.mem_iff_getElem?.mp hx
    exact h i x hi
theorem sub_nonneg {a b : Vec} (hl : a.length = b.length) (h : leV b a = true) : nonneg (subV a b) := by
  rw [nonneg_iff]
  intro i z hz
  obtain ⟨x, y, h1, h2, rfl⟩ := subV_at hz
  have := (leV_iff hl.symm).mp h i y x h2 h1
  omega
theorem sub_le {a b : Vec} (hl : a.length = b.length) (hb : nonneg b) : leV (subV a b) a = true := by
  refine (leV_iff (subV_len hl)).mpr fun i z x hz hx => ?_
  obtain ⟨x', y, h1, h2, rfl⟩ := subV_at hz
  rw [hx] at h1
  cases h1
  have := nonneg_iff.mp hb i y h2
  omega
theorem leV_trans {a b c : Vec} (h1 : a.length = b.length) (h2 : b.length = c.length) (x : leV a b = true) (y : leV b c = true) : leV a c = true := by
  refine (leV_iff (h1.trans h2)).mpr fun i p q hp hq => ?_
  have hb : i < b.length := by rw [← h1]; exact (List.getElem?_eq_some_iff.mp hp).1
  have e : b[i]? = some b[i] := List.getElem?_eq_getElem hb
  have q1 := (leV_iff h1).mp x i p _ hp e
  have q2 := (leV_iff h2).mp y i _ q e hq
  omega
theorem sum_sub : ∀ {a b : Vec}, a.length = b.length → (subV a b).sum = a.sum - b.sum
  | [], [], _ => rfl
  | x :: a, y :: b, h => by
    show ((x - y) :: subV a b).sum = _
    rw [List.sum_cons, sum_sub (by simpa using h), List.sum_cons, List.sum_cons]
    omega
theorem sum_add : ∀ {a b : Vec}, a.length = b.length → (addV a b).sum = a.sum + b.sum
  | [], [], _ => rfl
  | x :: a, y :: b, h => by
    show ((x + y) :: addV a b).sum = _
    rw [List.sum_cons, sum_add (by simpa using h), List.sum_cons, List.sum_cons]
    omega
theorem sum_nonneg : ∀ {a : Vec}, nonneg a → 0 ≤ a.sum
  | [], _ => Int.le_refl _
  | x :: a, h => by
    rw [List.sum_cons]
    have := sum_nonneg fun y hy => h y (List.mem_cons_of_mem _ hy)
    have := h x List.mem_cons_self
    omega
theorem vec_ext {a b : Vec} (hl : a.length = b.length) (h : ∀ (i : Nat) (x y : Int), a[i]? = some x → b[i]? = some y → x = y) : a = b := by
  apply List.ext_getElem?
  intro i
  by_cases hi : i < a.length
  · have e1 : a[i]? = some a[i] := List.getElem?_eq_getElem hi
    have e2 : b[i]? = some (b[i]'(by omega)) := List.getElem?_eq_getElem (by omega)
    rw [e1, e2, h i _ _ e1 e2]
  · rw [List.getElem?_eq_none (by omega), List.getElem?_eq_none (by omega)]
theorem sub_at {a b : Vec} {i : Nat} {x y : Int} (h1 : a[i]? = some x) (h2 : b[i]? = some y) : (subV a b)[i]? = some (x - y) := by
  unfold subV
  rw [List.getElem?_zipWith, h1, h2]
theorem add_at {a b : Vec} {i : Nat} {x y : Int} (h1 : a[i]? = some x) (h2 : b[i]? = some y) : (addV a b)[i]? = some (x + y) := by
  unfold addV
  rw [List.getElem?_zipWith, h1, h2]
theorem addV_at {a b : Vec} {i : Nat} {z : Int} (h : (addV a b)[i]? = some z) : ∃ x y, a[i]? = some x ∧ b[i]? = some y ∧ z = x + y := by
  unfold addV at h
  rw [List.getElem?_zipWith] at h
  cases h1 : a[i]? with
  | none => rw [h1] at h; cases h
  | some x =>
    cases h2 : b[i]? with
    | none => rw [h1, h2] at h; cases h
    | some y => rw [h1, h2] at h; exact ⟨x, y, rfl, rfl, (Option.some.inj h).symm⟩

/-! ### tables -/
def offF (rows : List Row) (F : Vec → Int) (v : Vec) : Int := rows.foldl (fun b r => if leV r.1 v = true then max b (r.2 + F (subV v r.1)) else b) 0
def Tf (forms : List Row) : Nat → Vec → Int
  | 0, _ => 0
  | k + 1, v => offF forms (Tf forms k) v
/-- the best of the forms within v -/
def TT (forms : List Row) (v : Vec) : Int := Tf forms (v.sum.toNat + 1) v
/-- of a size, not negative, not nothing -/
def okForm (n : Nat) (r : Row) : Prop := r.1.length = n ∧ nonneg r.1 ∧ 0 < r.1.sum ∧ 0 ≤ r.2
def okForms (n : Nat) (fs : List Row) : Prop := ∀ r ∈ fs, okForm n r
def okHead (n : Nat) (r : Row) : Prop := r.1.length = n ∧ nonneg r.1 ∧ 0 ≤ r.2
def okHeads (n : Nat) (fs : List Row) : Prop := ∀ r ∈ fs, okHead n r
def okV (n : Nat) (v : Vec) : Prop := v.length = n ∧ nonneg v
theorem foldl_cong {α β : Type} {f g : β → α → β} : ∀ (l : List α) (b : β), (∀ a ∈ l, ∀ b, f b a = g b a) → l.foldl f b = l.foldl g b
  | [], _, _ => rfl
  | a :: l, b, h => by
    rw [List.foldl_cons, List.foldl_cons, h a List.mem_cons_self]
    exact foldl_cong l _ fun x hx => h x (List.mem_cons_of_mem _ hx)
theorem offF_cong {rows : List Row} {F F' : Vec → Int} {v : Vec} (h : ∀ r ∈ rows, leV r.1 v = true → F (subV v r.1) = F' (subV v r.1)) : offF rows F v = offF rows F' v := by
  refine foldl_cong rows 0 fun r hr b => ?_
  by_cases c : leV r.1 v = true
  · rw [if_pos c, if_pos c, h r hr c]
  · rw [if_neg c, if_neg c]
theorem Tf_more {n : Nat} {fs : List Row} (ok : okForms n fs) : ∀ (k k' : Nat) (v : Vec), okV n v → v.sum.toNat < k → v.sum.toNat < k' → Tf fs k v = Tf fs k' v
  | 0, _, v, _, h, _ => by omega
  | _, 0, v, _, _, h => by omega
  | k + 1, k' + 1, v, hv, h1, h2 => by
    refine offF_cong fun r hr c => ?_
    obtain ⟨l, nn, s, _⟩ := ok r hr
    have e : v.length = r.1.length := hv.1.trans l.symm
    have hs := sum_sub e
    have nn' := sub_nonneg e c
    have hp := sum_nonneg hv.2
    have hq := sum_nonneg nn'
    exact Tf_more ok k k' (subV v r.1) ⟨(subV_len e).trans hv.1, nn'⟩ (by omega) (by omega)
theorem TT_eq {n : Nat} {fs : List Row} (ok : okForms n fs) {v : Vec} (hv : okV n v) : TT fs v = offF fs (TT fs) v := by
  refine offF_cong fun r hr c => ?_
  obtain ⟨l, nn, s, _⟩ := ok r hr
  have e : v.length = r.1.length := hv.1.trans l.symm
  have hs := sum_sub e
  have nn' := sub_nonneg e c
  have hp := sum_nonneg hv.2
  have hq := sum_nonneg nn'
  exact Tf_more ok _ _ (subV v r.1) ⟨(subV_len e).trans hv.1, nn'⟩ (by omega) (by omega)
/-- the fold of maxima -/
theorem fold_ge (rows : List Row) (F : Vec → Int) (v : Vec) : ∀ (b : Int), b ≤ rows.foldl (fun b r => if leV r.1 v = true then max b (r.2 + F (subV v r.1)) else b) b ∧
    (∀ r ∈ rows, leV r.1 v = true → r.2 + F (subV v r.1) ≤ rows.foldl (fun b r => if leV r.1 v = true then max b (r.2 + F (subV v r.1)) else b) b) ∧
    (rows.foldl (fun b r => if leV r.1 v = true then max b (r.2 + F (subV v r.1)) else b) b = b ∨ ∃ r ∈ rows, leV r.1 v = true ∧ rows.foldl (fun b r => if leV r.1 v = true then max b (r.2 + F (subV v r.1)) else b) b = r.2 + F (subV v r.1)) := by
  induction rows with
  | nil => exact fun b => ⟨Int.le_refl _, fun _ h => (by cases h), .inl rfl⟩
  | cons a rows ih =>
    intro b
    rw [List.foldl_cons]
    obtain ⟨h1, h2, h3⟩ := ih (if leV a.1 v = true then max b (a.2 + F (subV v a.1)) else b)
    by_cases c : leV a.1 v = true
    · rw [if_pos c] at h1 h2 h3 ⊢
      refine ⟨by omega, fun r hr hc => ?_, ?_⟩
      · rcases List.mem_cons.mp hr with rfl | hr
        · omega
        · exact h2 r hr hc
      · rcases h3 with h3 | ⟨r, hr, hc, h3⟩
        · by_cases q : b ≤ a.2 + F (subV v a.1)
          · exact .inr ⟨a, List.mem_cons_self, c, by rw [h3]; omega⟩
          · exact .inl (by rw [h3]; omega)
        · exact .inr ⟨r, List.mem_cons_of_mem _ hr, hc, h3⟩
    · rw [if_neg c] at h1 h2 h3 ⊢
      refine ⟨h1, fun r hr hc => ?_, ?_⟩
      · rcases List.mem_cons.mp hr with rfl | hr
        · exact absurd hc c
        · exact h2 r hr hc
      · rcases h3 with h3 | ⟨r, hr, hc, h3⟩
        · exact .inl h3
        · exact .inr ⟨r, List.mem_cons_of_mem _ hr, hc, h3⟩
theorem off_pos (rows : List Row) (F : Vec → Int) (v : Vec) : 0 ≤ offF rows F v := (fold_ge rows F v 0).1
theorem off_le {rows : List Row} {F : Vec → Int} {v : Vec} {r : Row} (h : r ∈ rows) (c : leV r.1 v = true) : r.2 + F (subV v r.1) ≤ offF rows F v := (fold_ge rows F v 0).2.1 r h c
theorem off_is (rows : List Row) (F : Vec → Int) (v : Vec) : offF rows F v = 0 ∨ ∃ r ∈ rows, leV r.1 v = true ∧ offF rows F v = r.2 + F (subV v r.1) := (fold_ge rows F v 0).2.2
/-- an answer is a least upper bound -/
theorem off_ub {rows : List Row} {F : Vec → Int} {v : Vec} {x : Int} (h0 : 0 ≤ x) (h : ∀ r ∈ rows, leV r.1 v = true → r.2 + F (subV v r.1) ≤ x) : offF rows F v ≤ x := by
  rcases off_is rows F v with e | ⟨r, hr, c, e⟩
  · rw [e]; exact h0
  · rw [e]; exact h r hr c
theorem TT_pos {n : Nat} {fs : List Row} (ok : okForms n fs) {v : Vec} (hv : okV n v) : 0 ≤ TT fs v := by rw [TT_eq ok hv]; exact off_pos _ _ _
/-- one table over two baskets together -/
theorem add_sub_assoc {a b c : Vec} (h1 : a.length = b.length) (h2 : a.length = c.length) : subV (addV a b) c = addV (subV a c) b := by
  refine vec_ext (by rw [subV_len (by rw [addV_len h1]; exact h2), addV_len h1, addV_len (by rw [subV_len h2]; exact h1), subV_len h2]) fun i x y hx hy => ?_
  obtain ⟨p, q, e1, e2, rfl⟩ := subV_at hx
  obtain ⟨p', q', e3, e4, rfl⟩ := addV_at e1
  obtain ⟨r, s, e5, e6, rfl⟩ := addV_at hy
  obtain ⟨t, u, e7, e8, rfl⟩ := subV_at e5
  rw [e3] at e7; cases e7
  rw [e2] at e8; cases e8
  rw [e4] at e6; cases e6
  omega
theorem addV_comm {a b : Vec} (h : a.length = b.length) : addV a b = addV b a := by
  refine vec_ext (by rw [addV_len h, addV_len h.symm, h]) fun i x y hx hy => ?_
  obtain ⟨p, q, e1, e2, rfl⟩ := addV_at hx
  obtain ⟨r, s, e3, e4, rfl⟩ := addV_at hy
  rw [e1] at e4; cases e4
  rw [e2] at e3; cases e3
  omega
theorem add_nonneg {a b : Vec} (ha : nonneg a) (hb : nonneg b) : nonneg (addV a b) := by
  rw [nonneg_iff]
  intro i z hz
  obtain ⟨x, y, h1, h2, rfl⟩ := addV_at hz
  have := nonneg_iff.mp ha i x h1
  have := nonneg_iff.mp hb i y h2
  omega
theorem le_add {a b : Vec} (h : a.length = b.length) (hb : nonneg b) : leV a (addV a b) = true := by
  refine (leV_iff (addV_len h).symm).mpr fun i x z hx hz => ?_
  obtain ⟨p, q, h1, h2, rfl⟩ := addV_at hz
  rw [hx] at h1; cases h1
  have := nonneg_iff.mp hb i q h2
  omega
theorem sub_add {a b : Vec} (h : a.length = b.length) : addV (subV a b) b = a := by
  refine vec_ext (by rw [addV_len (by rw [subV_len h, h]), subV_len h]) fun i x y hx hy => ?_
  obtain ⟨p, q, h1, h2, rfl⟩ := addV_at hx
  obtain ⟨r, s, h3, h4, rfl⟩ := subV_at h1
  rw [h2] at h4; cases h4
  rw [hy] at h3; cases h3
  omega
/-- tables: one's best and another's best are within the best of both (forms of each among g) -/
theorem TT_super {n : Nat} {f1 f2 g : List Row} (o1 : okForms n f1) (o2 : okForms n f2) (og : okForms n g) (s1 : ∀ r ∈ f1, r ∈ g) (s2 : ∀ r ∈ f2, r ∈ g) : ∀ (k : Nat) (a b : Vec), a.sum.toNat + b.sum.toNat < k → okV n a → okV n b → TT f1 a + TT f2 b ≤ TT g (addV a b) := by
  intro k
  induction k with
  | zero => intro a b h; omega
  | succ k ih =>
    intro a b hk ha hb
    have hl : a.length = b.length := ha.1.trans hb.1.symm
    have hab : okV n (addV a b) := ⟨(addV_len hl).trans ha.1, add_nonneg ha.2 hb.2⟩
    have pa := sum_nonneg ha.2
    have pb := sum_nonneg hb.2
    rw [TT_eq o1 ha]
    rcases off_is f1 (TT f1) a with e | ⟨r, hr, c, e⟩
    · rw [e, TT_eq o2 hb]
      rcases off_is f2 (TT f2) b with e2 | ⟨r, hr, c, e2⟩
      · rw [e2]
        exact TT_pos og hab
      · rw [e2]
        obtain ⟨l, nn, s, _⟩ := o2 r hr
        have lr : b.length = r.1.length := hb.1.trans l.symm
        have hs := sum_sub lr
        have nn' := sub_nonneg lr c
        have ps := sum_nonneg nn'
        have q := ih a (subV b r.1) (by omega) ha ⟨(subV_len lr).trans hb.1, nn'⟩
        have pT := TT_pos o1 ha
        have ele : leV r.1 (addV a b) = true := by
          rw [addV_comm hl]
          exact leV_trans lr.symm (by rw [addV_len hl.symm]) c (le_add hl.symm ha.2)
        have top := off_le (F := TT g) (s2 r hr) ele
        rw [← TT_eq og hab] at top
        have ea : subV (addV a b) r.1 = addV a (subV b r.1) := by
          rw [addV_comm hl, add_sub_assoc hl.symm lr, addV_comm (by rw [subV_len lr, hl])]
        rw [ea] at top
        omega
    · rw [e]
      obtain ⟨l, nn, s, _⟩ := o1 r hr
      have lr : a.length = r.1.length := ha.1.trans l.symm
      have hs := sum_sub lr
      have nn' := sub_nonneg lr c
      have ps := sum_nonneg nn'
      have q := ih (subV a r.1) b (by omega) ⟨(subV_len lr).trans ha.1, nn'⟩ hb
      have ele : leV r.1 (addV a b) = true := leV_trans lr.symm (by rw [addV_len hl]) c (le_add hl hb.2)
      have top := off_le (F := TT g) (s1 r hr) ele
      rw [← TT_eq og hab, add_sub_assoc hl lr] at top
      omega
theorem TT_add {n : Nat} {f1 f2 g : List Row} (o1 : okForms n f1) (o2 : okForms n f2) (og : okForms n g) (s1 : ∀ r ∈ f1, r ∈ g) (s2 : ∀ r ∈ f2, r ∈ g) {a b : Vec} (ha : okV n a) (hb : okV n b) : TT f1 a + TT f2 b ≤ TT g (addV a b) :=
  TT_super o1 o2 og s1 s2 _ a b (Nat.lt_succ_self _) ha hb
/-- of both: split in two -/
theorem TT_split {n : Nat} {f1 f2 g : List Row} (o1 : okForms n f1) (o2 : okForms n f2) (og : okForms n g) (s : ∀ r ∈ g, r ∈ f1 ∨ r ∈ f2) : ∀ (k : Nat) (v : Vec), v.sum.toNat < k → okV n v → ∃ a b, okV n a ∧ okV n b ∧ addV a b = v ∧ TT g v ≤ TT f1 a + TT f2 b := by
  intro k
  induction k with
  | zero => intro v h; omega
  | succ k ih =>
    intro v hk hv
    have pv := sum_nonneg hv.2
    rw [TT_eq og hv]
    rcases off_is g (TT g) v with e | ⟨r, hr, c, e⟩
    · have hz : okV n (subV v v) := ⟨(subV_len rfl).trans hv.1, sub_nonneg rfl (leV_refl v)⟩
      refine ⟨subV v v, v, hz, hv, sub_add rfl, ?_⟩
      rw [e]
      have := TT_pos o1 hz
      have := TT_pos o2 hv
      omega
    · obtain ⟨l, nn, sp, _⟩ := og r hr
      have lr : v.length = r.1.length := hv.1.trans l.symm
      have hs := sum_sub lr
      have nn' := sub_nonneg lr c
      have ps := sum_nonneg nn'
      obtain ⟨a, b, ha, hb, hab, q⟩ := ih (subV v r.1) (by omega) ⟨(subV_len lr).trans hv.1, nn'⟩
      have la : a.length = b.length := ha.1.trans hb.1.symm
      have lra : r.1.length = a.length := l.trans ha.1.symm
      have hra : okV n (addV r.1 a) := ⟨(addV_len lra).trans l, add_nonneg nn ha.2⟩
      have lrb : r.1.length = b.length := l.trans hb.1.symm
      have hrb : okV n (addV r.1 b) := ⟨(addV_len lrb).trans l, add_nonneg nn hb.2⟩
      have key : ∀ {f : List Row} {x : Vec}, okForms n f → okV n x → r ∈ f → r.2 + TT f x ≤ TT f (addV r.1 x) := fun {f x} of hx hm => by
        have lx : r.1.length = x.length := l.trans hx.1.symm
        have h1 : okV n (addV r.1 x) := ⟨(addV_len lx).trans l, add_nonneg nn hx.2⟩
        rw [TT_eq of h1]
        have := off_le (F := TT f) hm (le_add lx hx.2)
        have e : subV (addV r.1 x) r.1 = x := by
          rw [add_sub_assoc lx rfl]
          refine vec_ext (by rw [addV_len (by rw [subV_len rfl]; exact lx), subV_len rfl, lx]) fun i p q hp hq => ?_
          obtain ⟨y, z, e1, e2, rfl⟩ := addV_at hp
          obtain ⟨u, w, e3, e4, rfl⟩ := subV_at e1
          rw [e3] at e4; cases e4
          rw [hq] at e2; cases e2
          omega
        rw [e] at this
        exact this
      rcases s r hr with hm | hm
      · refine ⟨addV r.1 a, b, hra, hb, ?_, ?_⟩
        · have e2 := sub_add lr
          rw [← hab] at e2
          refine vec_ext (by rw [addV_len (by rw [addV_len lra]; exact lra.trans la |>.trans rfl |> fun h => by rw [lra]; exact la), addV_len lra, l, hv.1]) fun i x y hx hy => ?_
          obtain ⟨p, q', e3, e4, rfl⟩ := addV_at hx
          obtain ⟨p1, p2, e5, e6, rfl⟩ := addV_at e3
          rw [← e2] at hy
          obtain ⟨u, w, e7, e8, rfl⟩ := addV_at hy
          obtain ⟨u1, u2, e9, e10, rfl⟩ := addV_at e7
          rw [e5] at e8; cases e8
          rw [e6] at e9; cases e9
          rw [e4] at e10; cases e10
          omega
        · have := key o1 ha hm
          rw [e]
          omega
      · refine ⟨a, addV r.1 b, ha, hrb, ?_, ?_⟩
        · have e2 := sub_add lr
          rw [← hab] at e2
          refine vec_ext (by rw [addV_len (by rw [addV_len lrb, ← lra]), ha.1, hv.1]) fun i x y hx hy => ?_
          obtain ⟨p, q', e3, e4, rfl⟩ := addV_at hx
          obtain ⟨p1, p2, e5, e6, rfl⟩ := addV_at e4
          rw [← e2] at hy
          obtain ⟨u, w, e7, e8, rfl⟩ := addV_at hy
          obtain ⟨u1, u2, e9, e10, rfl⟩ := addV_at e7
          rw [e5] at e8; cases e8
          rw [e3] at e9; cases e9
          rw [e6] at e10; cases e10
          omega
        · have := key o2 hb hm
          rw [e]
          omega
end KM
end

section
set_option Elab.async false
set_option linter.all false
set_option maxRecDepth 100000
set_option maxHeartbeats 1000000
/-! K50P0: what the language's defs answer, typed. -/
namespace K50
open PL
theorem bindOk {α β : Type} {r : Rs α} {a : α} (h : r = .ok a) (f : α → Rs β) : r.bind f = f a := by rw [h]; rfl
/-- a comprehension over typed items -/
theorem compP_map {α : Type} (f : P → Rs (Option P)) (inj : α → P) (g : α → P) : ∀ (l : List α), (∀ a ∈ l, f (inj a) = .ok (some (g a))) → compP f (l.map inj) = .ok (l.map g)
  | [], _ => rfl
  | a :: l, h => by
    show ((f (inj a)).calm.bind fun o => (compP f (l.map inj)).bind fun ys => .ok (match o with | some y => y :: ys | none => ys)) = _
    rw [h a List.mem_cons_self, compP_map f inj g l fun b hb => h b (List.mem_cons_of_mem _ hb)]
    rfl
theorem compP_filter {α : Type} (f : P → Rs (Option P)) (inj : α → P) (g : α → P) (q : α → Bool) : ∀ (l : List α), (∀ a ∈ l, f (inj a) = .ok (if q a then some (g a) else none)) → compP f (l.map inj) = .ok ((l.filter q).map g)
  | [], _ => rfl
  | a :: l, h => by
    show ((f (inj a)).calm.bind fun o => (compP f (l.map inj)).bind fun ys => .ok (match o with | some y => y :: ys | none => ys)) = _
    rw [h a List.mem_cons_self, compP_filter f inj g q l fun b hb => h b (List.mem_cons_of_mem _ hb)]
    cases hq : q a with
    | true => simp [hq]
    | false => simp [hq]
theorem compP2_map {α β : Type} (f : P → Rs (List P)) (inj : α → P) (g : α → List P) : ∀ (l : List α), (∀ a ∈ l, f (inj a) = .ok (g a)) → compP2 f (l.map inj) = .ok (l.flatMap g)
  | [], _ => rfl
  | a :: l, h => by
    show ((f (inj a)).calm.bind fun o => (compP2 f (l.map inj)).bind fun ys => .ok (o ++ ys)) = _
    rw [h a List.mem_cons_self, compP2_map (β := β) f inj g l fun b hb => h b (List.mem_cons_of_mem _ hb)]
    rfl
/-- a loop that only goes on: E the slots by the state -/
theorem forP_fold {α σ : Type} (step : P → Ev → Rs Out) (inj : α → P) (E : σ → Ev) (g : σ → α → σ) (I : σ → Prop) : ∀ (l : List α) (s : σ), I s → (∀ a ∈ l, ∀ s, I s → step (inj a) (E s) = .ok (.nx (E (g s a))) ∧ I (g s a)) → forP step (l.map inj) (E s) = .ok (.nx (E (l.foldl g s))) ∧ I (l.foldl g s)
  | [], s, hi, _ => ⟨rfl, hi⟩
  | a :: l, s, hi, h => by
    obtain ⟨h1, h2⟩ := h a List.mem_cons_self s hi
    have q := forP_fold step inj E g I l (g s a) h2 fun b hb => h b (List.mem_cons_of_mem _ hb)
    refine ⟨?_, q.2⟩
    show seqO (step (inj a) (E s)) (fun ρ' => forP step (l.map inj) ρ') = _
    rw [h1]
    exact q.1
/-- a loop that may return -/
theorem forP_ret {α : Type} (step : P → Ev → Rs Out) (inj : α → P) (ρ : Ev) (q : α → Bool) (r : α → Rs Out) : ∀ (l : List α), (∀ a ∈ l, step (inj a) ρ = if q a then r a else .ok (.nx ρ)) → (∀ a ∈ l, ∀ ρ', r a ≠ .ok (.nx ρ')) →
    forP step (l.map inj) ρ = match l.find? q with | some a => r a | none => .ok (.nx ρ)
  | [], _, _ => rfl
  | a :: l, h, hn => by
    show seqO (step (inj a) ρ) (fun ρ' => forP step (l.map inj) ρ') = _
    rw [h a List.mem_cons_self]
    cases hq : q a with
    | true =>
      rw [List.find?_cons_of_pos hq]
      have := hn a List.mem_cons_self
      cases e : r a with
      | ok o =>
        cases o with
        | nx ρ' => exact absurd e (this ρ')
        | rt p => simp [e]
      | exc x => simp [e]
      | bad => simp [e]
    | false =>
      rw [List.find?_cons_of_neg (by simp [hq])]
      simp
      exact forP_ret step inj ρ q r l (fun b hb => h b (List.mem_cons_of_mem _ hb)) fun b hb => hn b (List.mem_cons_of_mem _ hb)
open KM (Vec Row addV subV leV members placeV)
def vP (v : Vec) : P := .tup (v.map .int)
def rowP (r : Row) : P := .tup [vP r.1, .int r.2]
def rowsP (l : List Row) : P := .tup (l.map rowP)
abbrev Tar := List Row × List Row
def tarP (t : Tar) : P := .tup [rowsP t.1, rowsP t.2]
theorem intsL_map (l : List Int) : intsL (l.map P.int) = some l := by
  induction l with
  | nil => rfl
  | cons a l ih => simp [intsL, ih]
theorem boolsL_map {α : Type} (f : α → Bool) (l : List α) : boolsL (l.map fun a => P.bl (f a)) = some (l.map f) := by
  induction l with
  | nil => rfl
  | cons a l ih => simp [boolsL, ih]
theorem e_int (n : Nat) (i : Int) : callF D G (n + 1) 0 [.int i] = .ok (.bl true) := by rw [c_is_integer]; rfl
theorem e_number (n : Nat) (i lo hi : Int) : callF D G (n + 2) 1 [.int i, .int lo, .int hi] = .ok (.bl (decide (lo ≤ i) && decide (i ≤ hi))) := by
  rw [c_is_number]
  simp [run, i_is_number, exs, ex, ev, evs, evAnd, PL.start, getS, asB, cmpP, e_int, fin]
  by_cases h : lo ≤ i <;> simp [h]
/-- is_number of what is no number -/
def isI : P → Bool
  | .int _ => true
  | _ => false
theorem e_number_no (n : Nat) (p : P) (lo hi : Int) (h : isI p = false) : callF D G (n + 2) 1 [p, .int lo, .int hi] = .ok (.bl false) := by
  have e : callF D G (n + 1) 0 [p] = .ok (.bl false) := by
    rw [c_is_integer]
    cases p <;> first | (cases h; done) | rfl
  rw [c_is_number]
  simp [run, i_is_number, exs, ex, ev, evs, evAnd, PL.start, getS, asB, e, fin]
theorem e_zero (n : Nat) (k : Int) (h0 : 0 ≤ k) (h1 : k ≤ 1000) : callF D G (n + 1) 2 [.int k] = .ok (vP (List.replicate k.toNat 0)) := by
  rw [c_zero]
  simp [run, i_zero, exs, ex, ev, evs, PL.start, getS, binP, h0, h1, fin, vP]
theorem zip_items (a b : Vec) : ((a.map P.int).zip (b.map P.int)).map (fun p => P.tup [p.1, p.2]) = (a.zip b).map fun q => .tup [.int q.1, .int q.2] := by
  rw [List.zip_map, List.map_map]
  rfl
theorem e_zipmap (n : Nat) (f : Nat) (d : Fn) (op : Int → Int → Int) (e : IE) (hd : D f = some d) (hb : d = ⟨4, 2, (.cons (.ret (.blt .tuple (.cons (.comp e (.pr (.v 2) (.v 3)) [2, 3] (.zip (.v 0) (.v 1)) .no) .nil))) .nil)⟩)
    (he : ∀ (x y : Int) (s t : Sl), ev (callF D G n) G e [s, t, .fz (.int x), .fz (.int y)] = .ok (.int (op x y))) (a b : Vec) (hl : a.length ≤ big) : callF D G (n + 1) f [vP a, vP b] = .ok (vP (List.zipWith op a b)) := by
  have e1 : callF D G (n + 1) f [vP a, vP b] = run (callF D G n) G d [vP a, vP b] := by
    show (match D f with | some d => run (callF D G n) G d [vP a, vP b] | none => .bad) = _
    rw [hd]
  rw [e1, hb]
  have hc := compP_map (fun x => (bindT (.pr (.v 2) (.v 3)) x [.fz (vP a), .fz (vP b), .un, .un]).bind fun ρ1 => (ev (callF D G n) G e ρ1).bind fun y => .ok (some y)) (fun q : Int × Int => P.tup [.int q.1, .int q.2]) (fun q => .int (op q.1 q.2)) (a.zip b) (fun q _ => by
    simp [bindT, he])
  simp only [run, exs, ex, ev, evs, evi, evc, PL.start, getS, wipeS, zipP, vP, List.length_map, decide_eq_true hl, zip_items]
  simp [vP] at hc
  simp [hl, zip_items, hc, bltP, fin, zipP]
  simp [List.zip_eq_zipWith, List.map_zipWith]
theorem e_plus (n : Nat) (a b : Vec) (hl : a.length ≤ big) : callF D G (n + 1) 3 [vP a, vP b] = .ok (vP (addV a b)) := e_zipmap n 3 _ (· + ·) _ rfl rfl (fun x y s t => rfl) a b hl
theorem e_minus (n : Nat) (a b : Vec) (hl : a.length ≤ big) : callF D G (n + 1) 4 [vP a, vP b] = .ok (vP (subV a b)) := e_zipmap n 4 _ (· - ·) _ rfl rfl (fun x y s t => rfl) a b hl
theorem e_top (n : Nat) (a b : Vec) (hl : a.length ≤ big) : callF D G (n + 1) 5 [vP a, vP b] = .ok (vP (List.zipWith max a b)) := e_zipmap n 5 _ (fun x y => max x y) _ rfl rfl (fun x y s t => rfl) a b hl
theorem e_total (n : Nat) (a : Vec) : callF D G (n + 1) 6 [vP a] = .ok (.int a.sum) := by
  rw [c_total]
  simp [run, i_total, exs, ex, ev, evs, PL.start, getS, bltP, asS, vP, intsL_map, fin]

/-! ### statements, one by one -/
def loopStep (Γ : Nat → List P → Rs P) (G : Nat → P) (t : Tg) (kill : List Nat) (body : ISs) : P → Ev → Rs Out := fun x ρ => seqO ((bindT t x ρ).bind fun ρ1 => exs Γ G body ρ1) fun ρ2 => .ok (.nx (wipeS kill ρ2))
section
variable {Γ : Nat → List P → Rs P} {G : Nat → P} {ρ : Ev}
theorem x_for {t : Tg} {it : II} {kill : List Nat} {body : ISs} : ex Γ G (.for_ t it kill body) ρ = (evi Γ G it ρ).bind fun xs => seqO (forP (loopStep Γ G t kill body) xs (wipeS kill ρ)) fun ρ' => .ok (.nx ρ') := rfl
theorem x_set {i : Nat} {e : IE} : ex Γ G (.set i e) ρ = (ev Γ G e ρ).bind fun x => Rs.when (decide (i < ρ.length)) (.ok (.nx (ρ.set i (.fz x)))) := rfl
theorem x_new {i : Nat} {e : IE} : ex Γ G (.new i e) ρ = (ev Γ G e ρ).bind fun x => (newS x).bind fun s => Rs.when (decide (i < ρ.length)) (.ok (.nx (ρ.set i s))) := rfl
theorem x_bind {t : Tg} {e : IE} : ex Γ G (.bind t e) ρ = (ev Γ G e ρ).bind fun x => (bindT t x ρ).bind fun ρ' => .ok (.nx ρ') := rfl
theorem x_ret {e : IE} : ex Γ G (.ret e) ρ = (ev Γ G e ρ).bind fun x => .ok (.rt x) := rfl
theorem x_eff {e : IE} : ex Γ G (.eff e) ρ = (ev Γ G e ρ).bind fun _ => .ok (.nx ρ) := rfl
theorem x_ite {c : IE} {a b : ISs} : ex Γ G (.ite c a b) ρ = (ev Γ G c ρ).bind fun x => (asB x).bind fun k => if k then exs Γ G a ρ else exs Γ G b ρ := rfl
theorem x_app {i : Nat} {e : IE} : ex Γ G (.app i e) ρ = Rs.when (owB ρ i) ((ev Γ G e ρ).bind fun x => (appS ρ i x).bind fun ρ' => .ok (.nx ρ')) := rfl
theorem x_ext {i : Nat} {e : IE} : ex Γ G (.ext i e) ρ = Rs.when (owB ρ i) ((ev Γ G e ρ).bind fun x => (extS ρ i x).bind fun ρ' => .ok (.nx ρ')) := rfl
theorem x_put {i : Nat} {k e : IE} : ex Γ G (.put i k e) ρ = (ev Γ G e ρ).bind fun x => Rs.when (hdB ρ i) ((ev Γ G k ρ).bind fun y => (putS ρ i y x).bind fun ρ' => .ok (.nx ρ')) := rfl
theorem x_raise {c : Nat} {es : IEs} : ex Γ G (.raise c es) ρ = (evs Γ G es ρ).bind fun xs => .exc ⟨c, xs⟩ := rfl
theorem x_frz {i : Nat} : ex Γ G (.frz i) ρ = .ok (.nx (frzS ρ i)) := rfl
theorem x_nil : exs Γ G .nil ρ = .ok (.nx ρ) := rfl
theorem x_cons {s : IS} {r : ISs} : exs Γ G (.cons s r) ρ = seqO (ex Γ G s ρ) fun ρ' => exs Γ G r ρ' := rfl
theorem v_v {i : Nat} : ev Γ G (.v i) ρ = getS ρ i := rfl
theorem v_c {p : P} : ev Γ G (.c p) ρ = .ok p := rfl
theorem v_g {k : Nat} : ev Γ G (.g k) ρ = .ok (G k) := rfl
theorem v_bin {o : BOp} {a b : IE} : ev Γ G (.bin o a b) ρ = (ev Γ G a ρ).bind fun x => (ev Γ G b ρ).bind fun y => binP o x y := rfl
theorem v_neg {a : IE} : ev Γ G (.neg a) ρ = (ev Γ G a ρ).bind fun x => (asI x).bind fun i => .ok (.int (-i)) := rfl
theorem v_not {a : IE} : ev Γ G (.not a) ρ = (ev Γ G a ρ).bind fun x => (asB x).bind fun b => .ok (.bl (!b)) := rfl
theorem v_cmp {o : COp} {a b : IE} : ev Γ G (.cmp o a b) ρ = (ev Γ G a ρ).bind fun x => (ev Γ G b ρ).bind fun y => (cmpP o x y).bind fun b => .ok (.bl b) := rfl
theorem v_chain {o o' : COp} {a b c : IE} : ev Γ G (.chain o o' a b c) ρ = (ev Γ G a ρ).bind fun x => (ev Γ G b ρ).bind fun y => (cmpP o x y).bind fun k => if k then (ev Γ G c ρ).bind fun z => (cmpP o' y z).bind fun b => .ok (.bl b) else .ok (.bl false) := rfl
theorem v_band {es : IEs} : ev Γ G (.band es) ρ = evAnd Γ G es ρ := rfl
theorem v_bor {es : IEs} : ev Γ G (.bor es) ρ = evOr Γ G es ρ := rfl
theorem v_ite {c a b : IE} : ev Γ G (.ite c a b) ρ = (ev Γ G c ρ).bind fun x => (asB x).bind fun k => if k then ev Γ G a ρ else ev Γ G b ρ := rfl
theorem v_tup {es : IEs} : ev Γ G (.tup es) ρ = (evs Γ G es ρ).bind fun xs => .ok (.tup xs) := rfl
theorem v_lst {es : IEs} : ev Γ G (.lst es) ρ = (evs Γ G es ρ).bind fun xs => .ok (.lst xs) := rfl
theorem v_sub {a i : IE} : ev Γ G (.sub a i) ρ = (ev Γ G a ρ).bind fun x => (ev Γ G i ρ).bind fun y => subP x y := rfl
theorem v_subv {i : Nat} {x : IE} : ev Γ G (.subv i x) ρ = match ρ[i]? with
    | some (.fz p) => (ev Γ G x ρ).bind fun y => subP p y
    | some (.ow xs) => (ev Γ G x ρ).bind fun y => subP (.lst xs) y
    | some (.od kvs) => (ev Γ G x ρ).bind fun y => subP (.dic kvs) y
    | _ => .bad := rfl
theorem v_lenv {i : Nat} : ev Γ G (.lenv i) ρ = match ρ[i]? with
    | some (.fz p) => bltP .len [p]
    | some (.ow xs) => .ok (.int xs.length)
    | _ => .bad := rfl
theorem v_inv {neg : Bool} {a : IE} {i : Nat} : ev Γ G (.inv neg a i) ρ = (ev Γ G a ρ).bind fun x => match ρ[i]? with
    | some (.fz p) => (inP x p).bind fun b => .ok (.bl (if neg then !b else b))
    | some (.ow xs) => (inP x (.lst xs)).bind fun b => .ok (.bl (if neg then !b else b))
    | _ => .bad := rfl
theorem v_lrng {it : II} : ev Γ G (.lrng it) ρ = (evi Γ G it ρ).bind fun xs => .ok (.lst xs) := rfl
theorem v_slc {a : IE} {lo hi : IEo} : ev Γ G (.slc a lo hi) ρ = (ev Γ G a ρ).bind fun x => (evo Γ G lo ρ).bind fun l => (evo Γ G hi ρ).bind fun h => slcP l h x := rfl
theorem v_call {f : Nat} {es : IEs} : ev Γ G (.call f es) ρ = (evs Γ G es ρ).bind fun xs => Γ f xs := rfl
theorem v_blt {f : Blt} {es : IEs} : ev Γ G (.blt f es) ρ = (evs Γ G es ρ).bind fun xs => bltP f xs := rfl
def cStep (Γ : Nat → List P → Rs P) (G : Nat → P) (e : IE) (t : Tg) (own : List Nat) (c : IEo) (ρ : Ev) : P → Rs (Option P) := fun x => (bindT t x (wipeS own ρ)).bind fun ρ1 => (evc Γ G c ρ1).bind fun k => if k then (ev Γ G e ρ1).bind fun y => .ok (some y) else .ok none
theorem v_comp {e : IE} {t : Tg} {own : List Nat} {it : II} {c : IEo} : ev Γ G (.comp e t own it c) ρ = (evi Γ G it ρ).bind fun xs => (compP (cStep Γ G e t own c ρ) xs).bind fun ys => .ok (.lst ys) := rfl
def cStep2 (Γ : Nat → List P → Rs P) (G : Nat → P) (e : IE) (t : Tg) (own : List Nat) (t2 : Tg) (own2 : List Nat) (it2 : II) (c : IEo) (ρ : Ev) : P → Rs (List P) := fun x => (bindT t x (wipeS own ρ)).bind fun ρ1 => (evi Γ G it2 ρ1).bind fun xs2 => compP (cStep Γ G e t2 own2 c ρ1) xs2
theorem v_comp2 {e : IE} {t : Tg} {own : List Nat} {it : II} {t2 : Tg} {own2 : List Nat} {it2 : II} {c : IEo} : ev Γ G (.comp2 e t own it t2 own2 it2 c) ρ = (evi Γ G it ρ).bind fun xs => (compP2 (cStep2 Γ G e t own t2 own2 it2 c ρ) xs).bind fun ys => Rs.when (decide (ys.length ≤ big)) (.ok (.lst ys)) := rfl
end
/-- with what is left to come -/
theorem forP_foldR {α σ : Type} (step : P → Ev → Rs Out) (inj : α → P) (E : σ → Ev) (g : σ → α → σ) (I : List α → σ → Prop) : ∀ (l : List α) (s : σ), I l s → (∀ a l s, I (a :: l) s → step (inj a) (E s) = .ok (.nx (E (g s a))) ∧ I l (g s a)) → forP step (l.map inj) (E s) = .ok (.nx (E (l.foldl g s))) ∧ I [] (l.foldl g s)
  | [], s, hi, _ => ⟨rfl, hi⟩
  | a :: l, s, hi, h => by
    obtain ⟨h1, h2⟩ := h a l s hi
    have q := forP_foldR step inj E g I l (g s a) h2 h
    refine ⟨?_, q.2⟩
    show seqO (step (inj a) (E s)) (fun ρ' => forP step (l.map inj) ρ') = _
    rw [h1]
    exact q.1
theorem e_fits (n : Nat) (a b : Vec) (hl : a.length ≤ big) : callF D G (n + 1) 7 [vP a, vP b] = .ok (.bl (leV a b)) := by
  rw [c_fits]
  simp [run, i_fits, x_cons, x_for, evi, ev, PL.start, getS, zipP, vP, hl, zip_items, wipeS]
  generalize hs : loopStep _ _ _ _ _ = step
  rw [forP_ret step (fun q : Int × Int => P.tup [.int q.1, .int q.2]) _ (fun q => decide (q.2 < q.1)) (fun _ => .ok (.rt (.bl false))) (a.zip b) (fun q _ => by
    rw [← hs]
    by_cases h : q.2 < q.1 <;> simp [loopStep, bindT, x_cons, x_nil, x_ite, x_ret, ev, getS, cmpP, asB, wipeS, h]) (fun q _ ρ' h => by cases h)]
  unfold leV
  cases hf : (a.zip b).find? fun q => decide (q.2 < q.1) with
  | some q =>
    have h1 := List.find?_some hf
    have h2 := List.mem_of_find?_eq_some hf
    have : ((a.zip b).all fun p => decide (p.1 ≤ p.2)) = false := by
      rw [List.all_eq_false]
      exact ⟨q, h2, by simpa using of_decide_eq_true h1⟩
    simp [this, fin]
  | none =>
    have h1 := List.find?_eq_none.mp hf
    have : ((a.zip b).all fun p => decide (p.1 ≤ p.2)) = true := by
      rw [List.all_eq_true]
      intro q hq
      have := h1 q hq
      simpa using this
    simp [this, fin, x_cons, x_nil, x_ret, ev]
def smallB (v : Vec) : Prop := ∀ m ∈ v, 0 ≤ m ∧ m ≤ 1000000
theorem mul_ok {i j : Int} (h : 0 ≤ j) (h2 : j ≤ 1000001) : mulOk i j = true := by
  unfold mulOk
  have : decide (j.natAbs < 2 ^ 64) = true := decide_eq_true (by omega)
  simp [this]
def cellsC (v : Vec) : Int := v.foldl (fun c m => c * (m + 1)) 1
theorem e_cells (n : Nat) (v : Vec) (hv : smallB v) : callF D G (n + 1) 8 [vP v] = .ok (.int (cellsC v)) := by
  rw [c_cells]
  simp [run, i_cells, x_cons, x_for, x_set, evi, ev, PL.start, getS, vP, wipeS, asS]
  generalize hs : loopStep _ _ _ _ _ = step
  have e := (forP_fold step P.int (fun c => [.fz (.tup (v.map .int)), .fz (.int c), .un]) (fun c m => c * (m + 1)) (fun _ => True) v 1 trivial (fun m hm c _ => ⟨by
    rw [← hs]
    have := hv m hm
    have hk : mulOk c (m + 1) = true := mul_ok (by omega) (by omega)
    simp [loopStep, bindT, x_cons, x_nil, x_set, ev, getS, binP, wipeS, hk], trivial⟩)).1
  rw [e]
  simp [x_cons, x_nil, x_ret, ev, getS, fin, cellsC]
theorem e_place (n : Nat) (a b : Vec) (hl : a.length ≤ big) (hb : smallB b) : callF D G (n + 1) 9 [vP a, vP b] = .ok (.int (placeV a b)) := by
  rw [c_place]
  simp [run, i_place, x_cons, x_for, x_set, evi, ev, PL.start, getS, zipP, vP, hl, zip_items, wipeS]
  generalize hs : loopStep _ _ _ _ _ = step
  have e := (forP_fold step (fun q : Int × Int => P.tup [.int q.1, .int q.2]) (fun c => [.fz (.tup (a.map .int)), .fz (.tup (b.map .int)), .fz (.int c), .un, .un]) (fun i p => i * (p.2 + 1) + p.1) (fun _ => True) (a.zip b) 0 trivial (fun q hq c _ => ⟨by
    rw [← hs]
    have := hb q.2 (List.of_mem_zip hq).2
    have hk : mulOk c (q.2 + 1) = true := mul_ok (by omega) (by omega)
    simp [loopStep, bindT, x_cons, x_nil, x_set, ev, getS, binP, wipeS, hk], trivial⟩)).1
  rw [e]
  simp [x_cons, x_nil, x_ret, ev, getS, fin, placeV]
end K50
end

section
set_option Elab.async false
set_option linter.all false
set_option maxRecDepth 100000
set_option maxHeartbeats 1000000
/-! K50P1: .. vectors, tariffs. -/
namespace K50
open PL
open KM (Vec Row addV subV leV members placeV prodB ext1 nonneg)
theorem cells_prod (v : Vec) : cellsC v = prodB v := by
  have key : ∀ (v : Vec) (c : Int), v.foldl (fun c m => c * (m + 1)) c = c * prodB v := fun v => by
    induction v with
    | nil => intro c; simp [prodB]
    | cons a v ih => intro c; rw [List.foldl_cons, ih]; show c * (a + 1) * prodB v = c * ((a + 1) * prodB v); rw [Int.mul_assoc]
  show v.foldl _ 1 = _
  rw [key, Int.one_mul]
theorem rngL_one (k : Nat) : rngL 0 k 1 = (List.range k).map fun (i : Nat) => P.int (i : Int) := by
  unfold rngL
  congr 1
  funext i
  simp
theorem rng_ok {j : Int} (h0 : -1000 ≤ j) (h1 : j ≤ 16777216) : rngOk j = true := by
  unfold rngOk
  have a1 : decide (-(2 ^ 62) ≤ j) = true := decide_eq_true (by omega)
  have a2 : decide (j < 2 ^ 62) = true := decide_eq_true (by omega)
  rw [a1, a2]
  rfl
theorem smallB_nn {v : Vec} (h : smallB v) : nonneg v := fun x hx => (h x hx).1
theorem e_within (n : Nat) (box : Vec) (hs : smallB box) (hl : box.length ≤ 1000) : callF D G (n + 2) 10 [vP box] = if 2000 < prodB box then .exc ⟨5, [.int 2000]⟩ else .ok (.tup ((members box).map vP)) := by
  rw [c_vectors_within]
  simp [run, i_vectors_within, x_cons, x_nil, x_ite, x_raise, ev, evs, PL.start, getS, e_cells n box hs, cells_prod, cmpP, asB, G, glL]
  by_cases hbig : 2000 < prodB box
  · simp [hbig]
  · simp [hbig, x_set, x_for, evi, ev, evs, getS, vP, asS, wipeS]
    generalize hst : loopStep _ _ _ _ _ = step
    have e := (forP_foldR step P.int (fun s : List Vec => [.fz (.tup (box.map .int)), .fz (.lst (s.map vP)), .un, .un, .un]) ext1
      (fun rem s => (s.length : Int) * prodB rem ≤ 2000 ∧ smallB rem ∧ ∀ v ∈ s, v.length + rem.length ≤ 1000) box [[]] ⟨by simpa using Int.not_lt.mp hbig, hs, fun v hv => by
        have : v = [] := by simpa using hv
        subst this
        simpa using hl⟩ (fun m rem s ⟨i1, i2, i3⟩ => by
      have hm := i2 m List.mem_cons_self
      have hr : smallB rem := fun x hx => i2 x (List.mem_cons_of_mem _ hx)
      have hp := KM.prodB_pos (smallB_nn hr)
      have el : ((ext1 s m).length : Int) = s.length * (m + 1) := by
        rw [KM.ext1_len, Int.natCast_mul, Int.toNat_of_nonneg (by omega)]
      have e2 : (s.length : Int) * ((m + 1) * prodB rem) ≤ 2000 := i1
      have e3 : ((ext1 s m).length : Int) * prodB rem ≤ 2000 := by rw [el, Int.mul_assoc]; exact e2
      have hlen : ((ext1 s m).length : Int) ≤ 2000 := by
        have : ((ext1 s m).length : Int) * 1 ≤ ((ext1 s m).length : Int) * prodB rem := Int.mul_le_mul_of_nonneg_left hp (by omega)
        omega
      refine ⟨?_, e3, hr, fun v hv => ?_⟩
      · rw [← hst]
        have hk := rng_ok (j := m + 1) (by omega) (by omega)
        have hk2 : m + 1 ≤ 16777216 := by omega
        have ec := compP2_map (β := Vec) (cStep2 (callF D G (n + 1)) G (.bin .add (.v 3) (.tup (.cons (.v 4) .nil))) (.v 3) [3, 4] (.v 4) [4] (.rng1 (.bin .add (.v 2) (.c (.int 1)))) .no [.fz (.tup (box.map .int)), .fz (.lst (s.map vP)), .fz (.int m), .un, .un]) vP (fun v => (List.range (m + 1).toNat).map fun (k : Nat) => vP (v ++ [(k : Int)])) s (fun v hv => by
          have hv3 := i3 v hv
          have ei := compP_map (cStep (callF D G (n + 1)) G (.bin .add (.v 3) (.tup (.cons (.v 4) .nil))) (.v 4) [4] .no [.fz (.tup (box.map .int)), .fz (.lst (s.map vP)), .fz (.int m), .fz (vP v), .un]) (fun (i : Nat) => P.int (i : Int)) (fun k => vP (v ++ [(k : Int)])) (List.range (m + 1).toNat) (fun k _ => by
            have hbg : v.length + 1 ≤ big := by show v.length + 1 ≤ 16777216; simp at hv3; omega
            simp [cStep, bindT, wipeS, evc, ev, evs, getS, vP, binP, hbg])
          simp [cStep2, bindT, wipeS, evi, ev, getS, binP, asI, hk, hk2, rngL_one, ei])
        have hb2 : (s.flatMap fun v => (List.range (m + 1).toNat).map fun (k : Nat) => vP (v ++ [(k : Int)])) = (ext1 s m).map vP := by
          unfold ext1
          rw [List.map_flatMap]
          congr 1
          funext v
          rw [List.map_map]
          rfl
        rw [hb2] at ec
        have hb3 : ((ext1 s m).map vP).length ≤ big := by rw [List.length_map]; show (ext1 s m).length ≤ 16777216; omega
        simp only [List.length_map] at hb3
        simp [loopStep, bindT, x_cons, x_nil, x_set, v_comp2, evi, v_v, v_c, v_g, v_bin, v_neg, v_not, v_cmp, v_chain, v_band, v_bor, v_ite, v_tup, v_lst, v_sub, v_subv, v_lenv, v_inv, v_lrng, v_slc, v_call, v_blt, evs, evAnd, evOr, evo, evc, evi, getS, asS, wipeS, ec, hb3]
      · unfold ext1 at hv
        obtain ⟨u, hu, hv⟩ := List.mem_flatMap.mp hv
        obtain ⟨k, _, rfl⟩ := List.mem_map.mp hv
        have := i3 u hu
        simp at this ⊢
        omega)).1
    have h0 : ([[]] : List Vec).map vP = [.tup []] := rfl
    rw [h0] at e
    rw [e]
    simp [x_cons, x_nil, x_ret, ev, evs, getS, fin, bltP, members]
end K50
end

section
set_option Elab.async false
set_option linter.all false
set_option maxRecDepth 100000
set_option maxHeartbeats 1000000
/-! K50P2: .. tariffs are checked. -/
namespace K50
open PL
open KM (Vec Row addV subV leV members placeV prodB ext1 nonneg)
/-- all entries between -/
def entB (lo hi : Int) (v : Vec) : Bool := v.all fun e => decide (lo ≤ e) && decide (e ≤ hi)
theorem bools_ent (lo hi : Int) (v : Vec) : boolsL (v.map fun x => P.bl (decide (lo ≤ x) && decide (x ≤ hi))) = some (v.map fun x => decide (lo ≤ x) && decide (x ≤ hi)) := boolsL_map (fun x => decide (lo ≤ x) && decide (x ≤ hi)) v
theorem ent_id (lo hi : Int) (v : Vec) : (v.map fun x => decide (lo ≤ x) && decide (x ≤ hi)).all id = entB lo hi v := by
  unfold entB
  rw [List.all_map]
  rfl
theorem e_is_vector (n : Nat) (v : Vec) (k : Int) : callF D G (n + 3) 11 [vP v, .int k] = .ok (.bl (decide ((v.length : Int) = k) && entB 0 1000000000000000000 v)) := by
  rw [c_is_vector]
  simp [run, i_is_vector, x_cons, x_nil, x_set, x_new, x_bind, x_ret, x_eff, x_ite, x_app, x_ext, x_put, x_raise, x_frz, x_for, v_v, v_c, v_g, v_bin, v_neg, v_not, v_cmp, v_chain, v_band, v_bor, v_ite, v_tup, v_lst, v_sub, v_subv, v_lenv, v_inv, v_lrng, v_slc, v_call, v_blt, evs, evAnd, evOr, evo, evc, evi, PL.start, getS, vP, bltP, asB, cmpP, eqOk, shaped, shp, eqv, fin]
  by_cases h : (v.length : Int) = k
  · simp [h, v_comp, x_cons, x_nil, x_set, x_new, x_bind, x_ret, x_eff, x_ite, x_app, x_ext, x_put, x_raise, x_frz, x_for, v_v, v_c, v_g, v_bin, v_neg, v_not, v_cmp, v_chain, v_band, v_bor, v_ite, v_tup, v_lst, v_sub, v_subv, v_lenv, v_inv, v_lrng, v_slc, v_call, v_blt, evs, evAnd, evOr, evo, evc, evi, getS, asS, fin]
    have e := compP_map (cStep (callF D G (n + 2)) G (.call 1 (.cons (.v 2) (.cons (.c (.int 0)) (.cons (.g 1) .nil)))) (.v 2) [2] .no [.fz (.tup (v.map .int)), .fz (.int k), .un]) P.int (fun x => .bl (decide (0 ≤ x) && decide (x ≤ 1000000000000000000))) v (fun x _ => by
      simp [cStep, bindT, wipeS, v_v, v_c, v_g, v_bin, v_neg, v_not, v_cmp, v_chain, v_band, v_bor, v_ite, v_tup, v_lst, v_sub, v_subv, v_lenv, v_inv, v_lrng, v_slc, v_call, v_blt, evs, evAnd, evOr, evo, evc, evi, getS, G, glL, e_number])
    rw [e]
    simp only [Rs.bind_ok, bools_ent, ent_id, seqO_rt]
  · simp [h, fin]
theorem e_check_vector (n : Nat) (v : Vec) (k : Int) (hk : (v.length : Int) = k) (hv : entB 0 1000000000000000000 v = true) : callF D G (n + 4) 12 [vP v, .int k] = .ok .non := by
  rw [c_check_vector]
  simp [run, i_check_vector, x_cons, x_nil, x_set, x_new, x_bind, x_ret, x_eff, x_ite, x_app, x_ext, x_put, x_raise, x_frz, x_for, v_v, v_c, v_g, v_bin, v_neg, v_not, v_cmp, v_chain, v_band, v_bor, v_ite, v_tup, v_lst, v_sub, v_subv, v_lenv, v_inv, v_lrng, v_slc, v_call, v_blt, evs, evAnd, evOr, evo, evc, evi, PL.start, getS, e_is_vector, hk, hv, asB, fin]
/-- a row of a size, between -/
def rowB (k : Int) (most lo hi : Int) (r : Row) : Bool := decide ((r.1.length : Int) = k) && ((decide (lo ≤ r.2) && decide (r.2 ≤ hi)) && entB 0 most r.1)
theorem e_is_row (n : Nat) (r : Row) (k most lo hi : Int) : callF D G (n + 3) 14 [rowP r, .int k, .int most, .int lo, .int hi] = .ok (.bl (rowB k most lo hi r)) := by
  rw [c_is_row]
  simp [run, i_is_row, x_cons, x_nil, x_set, x_new, x_bind, x_ret, x_eff, x_ite, x_app, x_ext, x_put, x_raise, x_frz, x_for, v_v, v_c, v_g, v_bin, v_neg, v_not, v_cmp, v_chain, v_band, v_bor, v_ite, v_tup, v_lst, v_sub, v_subv, v_lenv, v_inv, v_lrng, v_slc, v_call, v_blt, evs, evAnd, evOr, evo, evc, evi, PL.start, getS, rowP, vP, bltP, asB, cmpP, eqOk, shaped, shp, eqv, bindT, fin]
  unfold rowB
  by_cases h : (r.1.length : Int) = k
  · simp [h, v_comp, x_cons, x_nil, x_set, x_new, x_bind, x_ret, x_eff, x_ite, x_app, x_ext, x_put, x_raise, x_frz, x_for, v_v, v_c, v_g, v_bin, v_neg, v_not, v_cmp, v_chain, v_band, v_bor, v_ite, v_tup, v_lst, v_sub, v_subv, v_lenv, v_inv, v_lrng, v_slc, v_call, v_blt, evs, evAnd, evOr, evo, evc, evi, getS, asS, fin, e_number, asB]
    by_cases h2 : lo ≤ r.2 ∧ r.2 ≤ hi
    · have e := compP_map (cStep (callF D G (n + 2)) G (.call 1 (.cons (.v 7) (.cons (.c (.int 0)) (.cons (.v 2) .nil)))) (.v 7) [7] .no [.fz (.tup [.tup (r.1.map .int), .int r.2]), .fz (.int k), .fz (.int most), .fz (.int lo), .fz (.int hi), .fz (.tup (r.1.map .int)), .fz (.int r.2), .un]) P.int (fun x => .bl (decide (0 ≤ x) && decide (x ≤ most))) r.1 (fun x _ => by
        simp [cStep, bindT, wipeS, v_v, v_c, v_g, v_bin, v_neg, v_not, v_cmp, v_chain, v_band, v_bor, v_ite, v_tup, v_lst, v_sub, v_subv, v_lenv, v_inv, v_lrng, v_slc, v_call, v_blt, evs, evAnd, evOr, evo, evc, evi, getS, e_number])
      simp only [h2.1, h2.2, and_self, if_true, decide_true, Bool.and_self, Bool.true_and, e, Rs.bind_ok, bools_ent, ent_id, seqO_rt]
    · have : (decide (lo ≤ r.2) && decide (r.2 ≤ hi)) = false := by
        by_cases h3 : lo ≤ r.2
        · have : ¬ r.2 ≤ hi := fun z => h2 ⟨h3, z⟩
          simp [this]
        · simp [h3]
      simp [h2, this]
  · simp [h, fin]
theorem e_standing (n : Nat) (r : Row) (k : Int) : callF D G (n + 4) 15 [rowP r, .int k] = .ok (.bl (rowB k 20 1 1000000 r && decide (0 < r.1.sum))) := by
  rw [c_is_standing]
  simp [run, i_is_standing, x_cons, x_nil, x_set, x_new, x_bind, x_ret, x_eff, x_ite, x_app, x_ext, x_put, x_raise, x_frz, x_for, v_v, v_c, v_g, v_bin, v_neg, v_not, v_cmp, v_chain, v_band, v_bor, v_ite, v_tup, v_lst, v_sub, v_subv, v_lenv, v_inv, v_lrng, v_slc, v_call, v_blt, evs, evAnd, evOr, evo, evc, evi, PL.start, getS, e_is_row, G, glL, asB, cmpP, fin]
  cases hr : rowB k 20 1 1000000 r with
  | false => simp
  | true =>
    have e : subP (rowP r) (.int 0) = .ok (vP r.1) := rfl
    simp [e, e_total]
/-- what the first head says of the size -/
theorem e_first (n : Nat) (k : Nat) (h1 : 1 ≤ k) (h2 : k ≤ 4) : callF D G (n + 3) 13 [rowP (List.replicate k 0, 0)] = .ok (.int k) := by
  rw [c_first_size]
  have hk : (1 : Int) ≤ k := by omega
  have hk2 : (k : Int) ≤ 4 := by omega
  simp [run, i_first_size, x_cons, x_nil, x_set, x_new, x_bind, x_ret, x_eff, x_ite, x_app, x_ext, x_put, x_raise, x_frz, x_for, v_v, v_c, v_g, v_bin, v_neg, v_not, v_cmp, v_chain, v_band, v_bor, v_ite, v_tup, v_lst, v_sub, v_subv, v_lenv, v_inv, v_lrng, v_slc, v_call, v_blt, evs, evAnd, evOr, evo, evc, evi, PL.start, getS, rowP, vP, bltP, asB, cmpP, eqOk, shaped, shp, eqv, bindT, fin, G, glL, hk, hk2, e_number, v_comp, asS, h1, h2]
  have e := compP_map (cStep (callF D G (n + 2)) G (.call 1 (.cons (.v 3) (.cons (.c (.int 0)) (.cons (.c (.int 0)) .nil)))) (.v 3) [3] .no [.fz (.tup [.tup (List.replicate k (.int 0)), .int 0]), .fz (.tup (List.replicate k (.int 0))), .fz (.int 0), .un]) P.int (fun x => .bl (decide (0 ≤ x) && decide (x ≤ 0))) (List.replicate k 0) (fun x _ => by
        simp [cStep, bindT, wipeS, v_v, v_c, v_g, v_bin, v_neg, v_not, v_cmp, v_chain, v_band, v_bor, v_ite, v_tup, v_lst, v_sub, v_subv, v_lenv, v_inv, v_lrng, v_slc, v_call, v_blt, evs, evAnd, evOr, evo, evc, evi, getS, e_number])
  rw [List.map_replicate] at e
  rw [e]
  have hb := bools_ent 0 0 (List.replicate k 0)
  have hi := ent_id 0 0 (List.replicate k 0)
  have ha : entB 0 0 (List.replicate k 0) = true := by unfold entB; simp
  simp only [Rs.bind_ok]
  rw [hb]
  simp only [hi, ha, Rs.bind_ok]
  simp
end K50
end

section
set_option Elab.async false
set_option linter.all false
set_option maxRecDepth 100000
set_option maxHeartbeats 1000000
/-! K50P3: .. a tariff is checked; tables. -/
namespace K50
open PL
open KM (Vec Row addV subV leV members placeV prodB ext1 nonneg offF TT)
structure OkTar (k : Nat) (t : Tar) : Prop where
  kr : 1 ≤ k ∧ k ≤ 4
  h0 : ∃ r, t.1 = (List.replicate k 0, 0) :: r
  hl : t.1.length ≤ 400
  hs : ∀ r ∈ t.1, rowB k 1000 0 100000000 r = true
  fl : t.2.length ≤ 12
  fs : ∀ r ∈ t.2, rowB k 20 1 1000000 r = true ∧ 0 < r.1.sum
def badH (k : Nat) (r : Row) : Bool := !(rowB k 1000 0 100000000 r)
def badF (k : Nat) (r : Row) : Bool := !(rowB k 20 1 1000000 r && decide (0 < r.1.sum))
theorem find_none {α : Type} {q : α → Bool} {l : List α} (h : ∀ a ∈ l, q a = false) : l.find? q = none := List.find?_eq_none.mpr fun a ha => by rw [h a ha]; exact Bool.false_ne_true
theorem e_check (n : Nat) (t : Tar) (k : Nat) (hk : 1 ≤ k ∧ k ≤ 4) (h0 : ∃ r, t.1 = (List.replicate k 0, 0) :: r) (hl : t.1.length ≤ 400) :
    callF D G (n + 5) 16 [tarP t] = match t.1.find? (badH k) with
      | some _ => .exc ⟨3, [.str "heads"]⟩
      | none => if 12 < t.2.length then .exc ⟨3, [.str "forms"]⟩ else match t.2.find? (badF k) with
        | some _ => .exc ⟨3, [.str "forms"]⟩
        | none => .ok (.int k) := by
  obtain ⟨rest, e0⟩ := h0
  rw [c_check_tariff]
  have hl1 : 1 ≤ t.1.length := by rw [e0]; simp
  have hl3 : (1 : Int) ≤ (t.1.length : Int) := by omega
  have hl2 : (t.1.length : Int) ≤ 400 := by omega
  have hk0 : k ≠ 0 := by omega
  have e1 : subP (.tup (t.1.map rowP)) (.int 0) = .ok (rowP (List.replicate k 0, 0)) := by rw [e0]; simp [subP, atL, ixN]
  simp [run, i_check_tariff, x_cons, x_nil, x_set, x_new, x_bind, x_ret, x_eff, x_ite, x_app, x_ext, x_put, x_raise, x_frz, x_for, v_v, v_c, v_g, v_bin, v_neg, v_not, v_cmp, v_chain, v_band, v_bor, v_ite, v_tup, v_lst, v_sub, v_subv, v_lenv, v_inv, v_lrng, v_slc, v_call, v_blt, evs, evAnd, evOr, evo, evc, evi, PL.start, getS, tarP, rowsP, bltP, asB, cmpP, eqOk, shaped, shp, eqv, bindT, fin, G, glL, hl1, hl, hl2, hl3, e1, e_first, hk, wipeS, asS, hk0]
  generalize hs : loopStep _ _ _ _ _ = step
  rw [forP_ret step rowP _ (badH k) (fun _ => .exc ⟨3, [.str "heads"]⟩) t.1 (fun r _ => by
    rw [← hs]
    unfold badH
    cases hr : rowB k 1000 0 100000000 r <;> simp [loopStep, bindT, x_cons, x_nil, x_set, x_new, x_bind, x_ret, x_eff, x_ite, x_app, x_ext, x_put, x_raise, x_frz, x_for, v_v, v_c, v_g, v_bin, v_neg, v_not, v_cmp, v_chain, v_band, v_bor, v_ite, v_tup, v_lst, v_sub, v_subv, v_lenv, v_inv, v_lrng, v_slc, v_call, v_blt, evs, evAnd, evOr, evo, evc, evi, getS, G, glL, e_is_row, hr, asB, wipeS]) (fun q _ ρ' h => by cases h)]
  cases t.1.find? (badH k) with
  | some r => simp
  | none =>
    simp only [seqO_nx]
    by_cases hf : 12 < t.2.length
    · have hf' : (12 : Int) < (t.2.length : Int) := by omega
      simp [x_cons, x_nil, x_set, x_new, x_bind, x_ret, x_eff, x_ite, x_app, x_ext, x_put, x_raise, x_frz, x_for, v_v, v_c, v_g, v_bin, v_neg, v_not, v_cmp, v_chain, v_band, v_bor, v_ite, v_tup, v_lst, v_sub, v_subv, v_lenv, v_inv, v_lrng, v_slc, v_call, v_blt, evs, evAnd, evOr, evo, evc, evi, getS, bltP, cmpP, asB, G, glL, hf, hf']
    · have hf' : ¬ (12 : Int) < (t.2.length : Int) := by omega
      simp [x_cons, x_nil, x_set, x_new, x_bind, x_ret, x_eff, x_ite, x_app, x_ext, x_put, x_raise, x_frz, x_for, v_v, v_c, v_g, v_bin, v_neg, v_not, v_cmp, v_chain, v_band, v_bor, v_ite, v_tup, v_lst, v_sub, v_subv, v_lenv, v_inv, v_lrng, v_slc, v_call, v_blt, evs, evAnd, evOr, evo, evc, evi, getS, bltP, cmpP, asB, G, glL, hf, hf', asS, wipeS]
      generalize hs2 : loopStep _ _ _ _ _ = step2
      rw [forP_ret step2 rowP _ (badF k) (fun _ => .exc ⟨3, [.str "forms"]⟩) t.2 (fun r _ => by
        rw [← hs2]
        unfold badF
        cases hr : (rowB k 20 1 1000000 r && decide (0 < r.1.sum)) <;> simp only [loopStep, bindT, x_cons, x_nil, x_set, x_new, x_bind, x_ret, x_eff, x_ite, x_app, x_ext, x_put, x_raise, x_frz, x_for, v_v, v_c, v_g, v_bin, v_neg, v_not, v_cmp, v_chain, v_band, v_bor, v_ite, v_tup, v_lst, v_sub, v_subv, v_lenv, v_inv, v_lrng, v_slc, v_call, v_blt, evs, evAnd, evOr, evo, evc, evi, getS] <;> simp [G, glL, e_standing, getS, x_cons, x_nil, x_set, x_new, x_bind, x_ret, x_eff, x_ite, x_app, x_ext, x_put, x_raise, x_frz, x_for, v_v, v_c, v_g, v_bin, v_neg, v_not, v_cmp, v_chain, v_band, v_bor, v_ite, v_tup, v_lst, v_sub, v_subv, v_lenv, v_inv, v_lrng, v_slc, v_call, v_blt, evs, evAnd, evOr, evo, evc, evi, hr, asB, wipeS]) (fun q _ ρ' h => by cases h)]
      cases t.2.find? (badF k) with
      | some r => simp
      | none => simp [x_cons, x_nil, x_set, x_new, x_bind, x_ret, x_eff, x_ite, x_app, x_ext, x_put, x_raise, x_frz, x_for, v_v, v_c, v_g, v_bin, v_neg, v_not, v_cmp, v_chain, v_band, v_bor, v_ite, v_tup, v_lst, v_sub, v_subv, v_lenv, v_inv, v_lrng, v_slc, v_call, v_blt, evs, evAnd, evOr, evo, evc, evi, getS, fin]
theorem e_check_ok (n : Nat) {t : Tar} {k : Nat} (h : OkTar k t) : callF D G (n + 5) 16 [tarP t] = .ok (.int k) := by
  rw [e_check n t k h.kr h.h0 h.hl, find_none fun r hr => by unfold badH; rw [h.hs r hr]; rfl]
  have : ¬ 12 < t.2.length := by have := h.fl; omega
  rw [if_neg this, find_none fun r hr => by unfold badF; rw [(h.fs r hr).1, decide_eq_true (h.fs r hr).2]; rfl]
theorem e_check_bad (n : Nat) {t : Tar} {k : Nat} (hk : 1 ≤ k ∧ k ≤ 4) (h0 : ∃ r, t.1 = (List.replicate k 0, 0) :: r) (hl : t.1.length ≤ 400) {r : Row} (hr : r ∈ t.1) (hb : rowB k 1000 0 100000000 r = false) : callF D G (n + 5) 16 [tarP t] = .exc ⟨3, [.str "heads"]⟩ := by
  rw [e_check n t k hk h0 hl]
  cases e : t.1.find? (badH k) with
  | some x => rfl
  | none =>
    have := List.find?_eq_none.mp e r hr
    unfold badH at this
    rw [hb] at this
    exact absurd rfl this
theorem e_two (n : Nat) {a b : Tar} {k : Nat} (ha : OkTar k a) (hb : OkTar k b) : callF D G (n + 6) 17 [tarP a, tarP b] = .ok (.int k) := by
  rw [c_check_two]
  simp [run, i_check_two, x_cons, x_nil, x_set, x_new, x_bind, x_ret, x_eff, x_ite, x_app, x_ext, x_put, x_raise, x_frz, x_for, v_v, v_c, v_g, v_bin, v_neg, v_not, v_cmp, v_chain, v_band, v_bor, v_ite, v_tup, v_lst, v_sub, v_subv, v_lenv, v_inv, v_lrng, v_slc, v_call, v_blt, evs, evAnd, evOr, evo, evc, evi, PL.start, getS, e_check_ok n ha, e_check_ok n hb, cmpP, eqOk, shaped, shp, eqv, asB, fin]
/-! ### tables -/
def okF' (k : Nat) (fs : List Row) : Prop := KM.okForms k fs
theorem row_ok {k : Nat} {most lo hi : Int} {r : Row} (h : rowB k most lo hi r = true) : r.1.length = k ∧ nonneg r.1 ∧ lo ≤ r.2 ∧ r.2 ≤ hi ∧ ∀ x ∈ r.1, x ≤ most := by
  unfold rowB entB at h
  rw [Bool.and_eq_true, Bool.and_eq_true, Bool.and_eq_true, List.all_eq_true] at h
  obtain ⟨h1, ⟨h2, h3⟩, h4⟩ := h
  have h1 := of_decide_eq_true h1
  refine ⟨by omega, fun x hx => ?_, of_decide_eq_true h2, of_decide_eq_true h3, fun x hx => ?_⟩
  · have := h4 x hx
    rw [Bool.and_eq_true] at this
    exact of_decide_eq_true this.1
  · have := h4 x hx
    rw [Bool.and_eq_true] at this
    exact of_decide_eq_true this.2
theorem tar_forms {k : Nat} {t : Tar} (h : OkTar k t) : KM.okForms k t.2 := fun r hr => by
  obtain ⟨h1, h2⟩ := h.fs r hr
  obtain ⟨a, b, c, _⟩ := row_ok h1
  exact ⟨a, b, h2, by omega⟩
theorem tar_heads {k : Nat} {t : Tar} (h : OkTar k t) : KM.okHeads k t.1 := fun r hr => by
  obtain ⟨a, b, c, _⟩ := row_ok (h.hs r hr)
  exact ⟨a, b, c⟩
/-- a box for tables -/
structure OkBox (k : Nat) (box : Vec) : Prop where
  len : box.length = k
  sm : smallB box
  k4 : k ≤ 4
theorem OkBox.nn {k : Nat} {box : Vec} (h : OkBox k box) : nonneg box := smallB_nn h.sm
theorem OkBox.lb {k : Nat} {box : Vec} (h : OkBox k box) : box.length ≤ big := by
  have := h.len
  have := h.k4
  show box.length ≤ 16777216
  omega
/-- the value at a place -/
theorem at_place {k : Nat} {box : Vec} (hb : OkBox k box) (F : Vec → Int) {w : Vec} (hw : KM.inB w box) (m : Nat) (hm : placeV w box < m) : atL (((members box).take m).map fun v => P.int (F v)) (placeV w box) = .ok (.int (F w)) := by
  obtain ⟨p0, p1⟩ := KM.members_at box hb.nn w hw
  have hlt : (placeV w box).toNat < (members box).length := (List.getElem?_eq_some_iff.mp p1).1
  have hlen : (((members box).take m).map fun v => P.int (F v)).length = min m (members box).length := by rw [List.length_map, List.length_take]
  unfold atL ixN
  rw [if_pos p0, hlen, if_pos (by omega)]
  simp only [Option.bind_some]
  rw [List.getElem?_map, List.getElem?_take, if_pos (by omega), p1]
  rfl
/-- a part of v comes before v -/
theorem place_lt {k : Nat} {box : Vec} (hb : OkBox k box) {v w : Vec} (hv : KM.inB v box) (hw : KM.inB w box) (hle : leV w v = true) (hne : w.sum < v.sum) : placeV w box < placeV v box := by
  have key : ∀ (box : Vec), nonneg box → ∀ v w : Vec, KM.inB v box → KM.inB w box → leV w v = true → placeV w box ≤ placeV v box ∧ (placeV w box = placeV v box → w = v) := by
    intro box
    refine KM.rev_ind (Pr := fun box => nonneg box → ∀ v w : Vec, KM.inB v box → KM.inB w box → leV w v = true → placeV w box ≤ placeV v box ∧ (placeV w box = placeV v box → w = v)) ?_ ?_ box
    · intro _ v w hv hw _
      have e1 : v = [] := List.length_eq_zero_iff.mp hv.1
      have e2 : w = [] := List.length_eq_zero_iff.mp hw.1
      subst e1 e2
      exact ⟨Int.le_refl _, fun _ => rfl⟩
    · intro box m ih hn v w hv hw hle
      obtain ⟨v, e, rfl, hl⟩ := KM.snoc_cases v (by rw [hv.1, List.length_append]; rfl)
      obtain ⟨w, f, rfl, hl2⟩ := KM.snoc_cases w (by rw [hw.1, List.length_append]; rfl)
      obtain ⟨a1, a2, a3⟩ := (KM.inB_snoc hl).mp hv
      obtain ⟨b1, b2, b3⟩ := (KM.inB_snoc hl2).mp hw
      rw [KM.leV_snoc (hl2.trans hl.symm), Bool.and_eq_true, decide_eq_true_iff] at hle
      obtain ⟨q1, q2⟩ := ih (fun x hx => hn x (List.mem_append_left _ hx)) v w a1 b1 hle.1
      have hm : 0 ≤ m := hn m (by simp)
      rw [KM.place_snoc hl, KM.place_snoc hl2]
      have hmul : placeV w box * (m + 1) ≤ placeV v box * (m + 1) := Int.mul_le_mul_of_nonneg_right q1 (by omega)
      refine ⟨by omega, fun e' => ?_⟩
      have e1 : placeV w box * (m + 1) = placeV v box * (m + 1) := by omega
      have e2 : placeV w box = placeV v box := Int.eq_of_mul_eq_mul_right (by omega) e1
      have e3 : f = e := by omega
      rw [q2 e2, e3]
  obtain ⟨h1, h2⟩ := key box hb.nn v w hv hw hle
  rcases Int.lt_or_eq_of_le h1 with h | h
  · exact h
  · rw [h2 h] at hne
    omega
/-- what is left of v is within the box -/
theorem sub_in {k : Nat} {box v : Vec} (hb : OkBox k box) (hv : KM.inB v box) {r : Vec} (hl : r.length = k) (hn : nonneg r) (c : leV r v = true) : KM.inB (subV v r) box ∧ leV (subV v r) v = true ∧ (subV v r).sum = v.sum - r.sum := by
  have e : v.length = r.length := by rw [hv.1, hb.len, hl]
  have h1 := KM.sub_le e hn
  refine ⟨⟨(KM.subV_len e).trans hv.1, KM.sub_nonneg e c, KM.leV_trans (KM.subV_len e) hv.1 h1 hv.2.2⟩, h1, KM.sum_sub e⟩
end K50
end

section
set_option Elab.async false
set_option linter.all false
set_option maxRecDepth 100000
set_option maxHeartbeats 2000000
/-! K50P4: .. tables. -/
namespace K50
open PL
open KM (Vec Row addV subV leV members placeV prodB ext1 nonneg offF TT)
theorem bx_len {k : Nat} {box v : Vec} (hb : OkBox k box) (hv : KM.inB v box) : v.length ≤ big := by
  rw [hv.1]
  exact hb.lb
theorem members_le {box : Vec} (h : nonneg box) (hp : ¬ 2000 < prodB box) : (members box).length ≤ 2000 := by
  have := KM.members_len box h
  omega
theorem pre_at {box : Vec} (hn : nonneg box) {s rem : List Vec} {v : Vec} (h : s ++ v :: rem = members box) : s = (members box).take s.length ∧ placeV v box = s.length ∧ KM.inB v box := by
  have e : (members box)[s.length]? = some v := by rw [← h]; simp
  refine ⟨by rw [← h]; simp, KM.place_of box hn _ v e, KM.members_in box v (List.mem_of_getElem? e)⟩
/-- the value that is looked up while the table grows -/
theorem look_pre {k : Nat} {box : Vec} (hb : OkBox k box) {forms : List Row} (ok : KM.okForms k forms) {s rem : List Vec} {v : Vec} (h : s ++ v :: rem = members box) {r : Row} (hr : r ∈ forms) (c : leV r.1 v = true) :
    atL (s.map fun v => P.int (TT forms v)) (placeV (subV v r.1) box) = .ok (.int (TT forms (subV v r.1))) := by
  obtain ⟨h1, h2, h3⟩ := pre_at hb.nn h
  obtain ⟨l, nn, sp, _⟩ := ok r hr
  obtain ⟨q1, q2, q3⟩ := sub_in hb h3 l nn c
  have hlt := place_lt hb h3 q1 q2 (by omega)
  rw [h1]
  exact at_place hb _ q1 _ (by omega)
theorem e_table (n : Nat) (forms : List Row) (box : Vec) (k : Nat) (hb : OkBox k box) (ok : KM.okForms k forms) : callF D G (n + 3) 18 [rowsP forms, vP box] = if 2000 < prodB box then .exc ⟨5, [.int 2000]⟩ else .ok (.tup ((members box).map fun v => .int (TT forms v))) := by
  rw [c_table]
  have hl1000 : box.length ≤ 1000 := by have := hb.len; have := hb.k4; omega
  simp [run, i_table, x_cons, x_nil, x_set, x_new, x_bind, x_ret, x_eff, x_ite, x_app, x_ext, x_put, x_raise, x_frz, x_for, v_v, v_c, v_g, v_bin, v_neg, v_not, v_cmp, v_chain, v_band, v_bor, v_ite, v_tup, v_lst, v_sub, v_subv, v_lenv, v_inv, v_lrng, v_slc, v_call, v_blt, evs, evAnd, evOr, evo, evc, evi, PL.start, getS, newS, e_within n box hb.sm hl1000]
  by_cases hbig : 2000 < prodB box
  · simp [hbig]
  · have hml := members_le hb.nn hbig
    simp [hbig, asS, wipeS]
    generalize hst : loopStep _ _ _ _ _ = step
    have e := (forP_foldR step vP (fun s : List Vec => [.fz (rowsP forms), .fz (vP box), .ow (s.map fun v => .int (TT forms v)), .un, .un, .un, .un]) (fun s v => s ++ [v]) (fun rem s => s ++ rem = members box) (members box) [] rfl (fun v rem s hi => by
      refine ⟨?_, by rw [List.append_assoc]; exact hi⟩
      obtain ⟨h1, h2, h3⟩ := pre_at hb.nn hi
      have hvk : KM.okV k v := ⟨h3.1.trans hb.len, h3.2.1⟩
      rw [← hst]
      simp [loopStep, bindT, x_cons, x_nil, x_set, x_new, x_bind, x_ret, x_eff, x_ite, x_app, x_ext, x_put, x_raise, x_frz, x_for, v_v, v_c, v_g, v_bin, v_neg, v_not, v_cmp, v_chain, v_band, v_bor, v_ite, v_tup, v_lst, v_sub, v_subv, v_lenv, v_inv, v_lrng, v_slc, v_call, v_blt, evs, evAnd, evOr, evo, evc, evi, getS, rowsP, asS, wipeS]
      generalize hst2 : loopStep _ _ _ _ _ = step2
      have e2 := (forP_fold step2 rowP (fun b : Int => [.fz (.tup (forms.map rowP)), .fz (vP box), .ow (s.map fun v => .int (TT forms v)), .fz (vP v), .fz (.int b), .un, .un]) (fun b r => if leV r.1 v = true then max b (r.2 + TT forms (subV v r.1)) else b) (fun _ => True) forms 0 trivial (fun r hr b _ => ⟨by
        rw [← hst2]
        obtain ⟨l, nn, sp, _⟩ := ok r hr
        have lb : r.1.length ≤ big := by rw [l, ← hb.len]; exact hb.lb
        by_cases c : leV r.1 v = true
        · obtain ⟨q1, q2, q3⟩ := sub_in hb h3 l nn c
          simp [loopStep, bindT, rowP, x_cons, x_nil, x_set, x_new, x_bind, x_ret, x_eff, x_ite, x_app, x_ext, x_put, x_raise, x_frz, x_for, v_v, v_c, v_g, v_bin, v_neg, v_not, v_cmp, v_chain, v_band, v_bor, v_ite, v_tup, v_lst, v_sub, v_subv, v_lenv, v_inv, v_lrng, v_slc, v_call, v_blt, evs, evAnd, evOr, evo, evc, evi, getS, e_fits _ _ _ lb, c, asB, e_minus _ _ _ (bx_len hb h3), e_place _ _ _ (bx_len hb q1) hb.sm, subP, look_pre hb ok hi hr c, binP, bltP, wipeS]
        · simp [loopStep, bindT, rowP, x_cons, x_nil, x_set, x_new, x_bind, x_ret, x_eff, x_ite, x_app, x_ext, x_put, x_raise, x_frz, x_for, v_v, v_c, v_g, v_bin, v_neg, v_not, v_cmp, v_chain, v_band, v_bor, v_ite, v_tup, v_lst, v_sub, v_subv, v_lenv, v_inv, v_lrng, v_slc, v_call, v_blt, evs, evAnd, evOr, evo, evc, evi, getS, e_fits _ _ _ lb, c, asB, wipeS], trivial⟩)).1
      rw [e2]
      have hlen : s.length < big := by
        have : s.length < (members box).length := by rw [← hi]; simp
        show s.length < 16777216
        omega
      have eT : forms.foldl (fun b r => if leV r.1 v = true then max b (r.2 + TT forms (subV v r.1)) else b) 0 = TT forms v := (KM.TT_eq ok hvk).symm
      simp [x_cons, x_nil, x_set, x_new, x_bind, x_ret, x_eff, x_ite, x_app, x_ext, x_put, x_raise, x_frz, x_for, v_v, v_c, v_g, v_bin, v_neg, v_not, v_cmp, v_chain, v_band, v_bor, v_ite, v_tup, v_lst, v_sub, v_subv, v_lenv, v_inv, v_lrng, v_slc, v_call, v_blt, evs, evAnd, evOr, evo, evc, evi, getS, owB, appS, hlen, eT, wipeS])).1
    have ef : (members box).foldl (fun s v => s ++ [v]) [] = members box := by
      have key : ∀ (l s : List Vec), l.foldl (fun s v => s ++ [v]) s = s ++ l := fun l => by
        induction l with
        | nil => intro s; simp
        | cons a l ih => intro s; rw [List.foldl_cons, ih]; simp
      rw [key]; rfl
    rw [ef] at e
    have e0 : ([] : List Vec).map (fun v => P.int (TT forms v)) = [] := rfl
    rw [e0] at e
    rw [e]
    simp [x_cons, x_nil, x_set, x_new, x_bind, x_ret, x_eff, x_ite, x_app, x_ext, x_put, x_raise, x_frz, x_for, v_v, v_c, v_g, v_bin, v_neg, v_not, v_cmp, v_chain, v_band, v_bor, v_ite, v_tup, v_lst, v_sub, v_subv, v_lenv, v_inv, v_lrng, v_slc, v_call, v_blt, evs, evAnd, evOr, evo, evc, evi, getS, frzS, freezeS, bltP, fin]
/-- heads, a tuple or a list -/
def isRows (p : P) (l : List Row) : Prop := asS p = .ok (l.map rowP)
theorem rows_t (l : List Row) : isRows (rowsP l) l := rfl
theorem rows_l (l : List Row) : isRows (.lst (l.map rowP)) l := rfl
theorem e_best (n : Nat) (hp : P) (heads : List Row) (basket box : Vec) (F : Vec → Int) (k : Nat) (hb : OkBox k box) (hh : isRows hp heads) (ok : KM.okHeads k heads) (hv : KM.inB basket box) :
    callF D G (n + 2) 19 [hp, vP basket, vP box, .tup ((members box).map fun v => .int (F v))] = .ok (.int (offF heads F basket)) := by
  rw [c_best_off]
  have hh' : asS hp = .ok (heads.map rowP) := hh
  simp [run, i_best_off, x_cons, x_nil, x_set, x_new, x_bind, x_ret, x_eff, x_ite, x_app, x_ext, x_put, x_raise, x_frz, x_for, v_v, v_c, v_g, v_bin, v_neg, v_not, v_cmp, v_chain, v_band, v_bor, v_ite, v_tup, v_lst, v_sub, v_subv, v_lenv, v_inv, v_lrng, v_slc, v_call, v_blt, evs, evAnd, evOr, evo, evc, evi, PL.start, getS, hh', wipeS]
  generalize hst2 : loopStep _ _ _ _ _ = step2
  have e2 := (forP_fold step2 rowP (fun b : Int => [.fz hp, .fz (vP basket), .fz (vP box), .fz (.tup ((members box).map fun v => .int (F v))), .fz (.int b), .un, .un]) (fun b r => if leV r.1 basket = true then max b (r.2 + F (subV basket r.1)) else b) (fun _ => True) heads 0 trivial (fun r hr b _ => ⟨by
    rw [← hst2]
    obtain ⟨l, nn, _⟩ := ok r hr
    have lb : r.1.length ≤ big := by rw [l, ← hb.len]; exact hb.lb
    by_cases c : leV r.1 basket = true
    · obtain ⟨q1, q2, q3⟩ := sub_in hb hv l nn c
      obtain ⟨p0, p1⟩ := KM.members_at box hb.nn _ q1
      have hpl := at_place hb F q1 (members box).length (by
        have := (List.getElem?_eq_some_iff.mp p1).1
        omega)
      rw [List.take_length] at hpl
      simp [loopStep, bindT, rowP, x_cons, x_nil, x_set, x_new, x_bind, x_ret, x_eff, x_ite, x_app, x_ext, x_put, x_raise, x_frz, x_for, v_v, v_c, v_g, v_bin, v_neg, v_not, v_cmp, v_chain, v_band, v_bor, v_ite, v_tup, v_lst, v_sub, v_subv, v_lenv, v_inv, v_lrng, v_slc, v_call, v_blt, evs, evAnd, evOr, evo, evc, evi, getS, e_fits _ _ _ lb, c, asB, e_minus _ _ _ (bx_len hb hv), e_place _ _ _ (bx_len hb q1) hb.sm, subP, hpl, binP, bltP, wipeS]
    · simp [loopStep, bindT, rowP, x_cons, x_nil, x_set, x_new, x_bind, x_ret, x_eff, x_ite, x_app, x_ext, x_put, x_raise, x_frz, x_for, v_v, v_c, v_g, v_bin, v_neg, v_not, v_cmp, v_chain, v_band, v_bor, v_ite, v_tup, v_lst, v_sub, v_subv, v_lenv, v_inv, v_lrng, v_slc, v_call, v_blt, evs, evAnd, evOr, evo, evc, evi, getS, e_fits _ _ _ lb, c, asB, wipeS], trivial⟩)).1
  rw [e2]
  simp [x_cons, x_nil, x_set, x_new, x_bind, x_ret, x_eff, x_ite, x_app, x_ext, x_put, x_raise, x_frz, x_for, v_v, v_c, v_g, v_bin, v_neg, v_not, v_cmp, v_chain, v_band, v_bor, v_ite, v_tup, v_lst, v_sub, v_subv, v_lenv, v_inv, v_lrng, v_slc, v_call, v_blt, evs, evAnd, evOr, evo, evc, evi, getS, fin]
  rfl
/-- within itself -/
theorem in_self {k : Nat} {box : Vec} (hb : OkBox k box) : KM.inB box box := ⟨rfl, hb.nn, KM.leV_refl _⟩
theorem e_off_of (n : Nat) {t : Tar} {k : Nat} (h : OkTar k t) (basket : Vec) (hb : OkBox k basket) (hp : ¬ 2000 < prodB basket) (hent : entB 0 1000000000000000000 basket = true) :
    callF D G (n + 6) 20 [tarP t, vP basket] = .ok (.int (offF t.1 (TT t.2) basket)) := by
  rw [c_off_of]
  have e1 : subP (tarP t) (.int 0) = .ok (rowsP t.1) := rfl
  have e2 : subP (tarP t) (.int 1) = .ok (rowsP t.2) := rfl
  have et := e_table (n + 2) t.2 basket k hb (tar_forms h)
  rw [if_neg hp] at et
  have eb := e_best (n + 3) (rowsP t.1) t.1 basket basket (TT t.2) k hb (rows_t t.1) (tar_heads h) (in_self hb)
  simp [run, i_off_of, x_cons, x_nil, x_set, x_new, x_bind, x_ret, x_eff, x_ite, x_app, x_ext, x_put, x_raise, x_frz, x_for, v_v, v_c, v_g, v_bin, v_neg, v_not, v_cmp, v_chain, v_band, v_bor, v_ite, v_tup, v_lst, v_sub, v_subv, v_lenv, v_inv, v_lrng, v_slc, v_call, v_blt, evs, evAnd, evOr, evo, evc, evi, PL.start, getS, e_check_ok n h, e_check_vector (n + 1) basket k (by rw [hb.len]) hent, e1, e2, et, eb, fin]
end K50
end

section
set_option Elab.async false
set_option linter.all false
set_option maxRecDepth 100000
set_option maxHeartbeats 2000000
/-! K50P5: the law's own defs. -/
namespace K50
open PL
open KM (Vec Row addV subV leV members placeV prodB ext1 nonneg offF TT)
theorem at_nat {α : Type} (f : α → P) {l : List α} {i : Nat} {a : α} (h : l[i]? = some a) : atL (l.map f) (i : Int) = .ok (f a) := by
  have hi := (List.getElem?_eq_some_iff.mp h).1
  unfold atL ixN
  rw [if_pos (by omega), List.length_map, if_pos (by omega)]
  simp [h]
theorem at_natP {l : List P} {i : Nat} {a : P} (h : l[i]? = some a) : atL l (i : Int) = .ok a := by
  have := at_nat id h
  rwa [List.map_id] at this
theorem range_zip (op : Int → Int → Int) {a b : Vec} (h : a.length = b.length) : ((List.range a.length).map fun i => P.int (op (a.getD i 0) (b.getD i 0))) = (List.zipWith op a b).map P.int := by
  apply List.ext_getElem?
  intro i
  rw [List.getElem?_map, List.getElem?_map, List.getElem?_zipWith]
  by_cases hi : i < a.length
  · rw [List.getElem?_range hi, List.getElem?_eq_getElem hi, List.getElem?_eq_getElem (by omega : i < b.length)]
    simp [List.getD, hi, show i < b.length by omega]
  · rw [List.getElem?_eq_none (by rw [List.length_range]; omega), List.getElem?_eq_none (by omega : a.length ≤ i)]
    rfl
theorem getD_at {a : Vec} {i : Nat} (h : i < a.length) : a[i]? = some (a.getD i 0) := by
  rw [List.getElem?_eq_getElem h]
  simp [List.getD, h]
theorem e_pointwise (n : Nat) (f : Nat) (d : Fn) (o : BOp) (op : Int → Int → Int) (hd : D f = some d) (hb : d = ⟨3, 2, (.cons (.ret (.blt .tuple (.cons (.comp (.bin o (.subv 0 (.v 2)) (.subv 1 (.v 2))) (.v 2) [2] (.rng1 (.blt .len (.cons (.v 0) .nil))) .no) .nil))) .nil)⟩)
    (ho : ∀ x y, binP o (.int x) (.int y) = .ok (.int (op x y))) (a b : Vec) (hl : a.length ≤ 1000) (hab : a.length = b.length) : callF D G (n + 1) f [vP a, vP b] = .ok (vP (List.zipWith op a b)) := by
  have e1 : callF D G (n + 1) f [vP a, vP b] = run (callF D G n) G d [vP a, vP b] := by
    show (match D f with | some d => run (callF D G n) G d [vP a, vP b] | none => .bad) = _
    rw [hd]
  rw [e1, hb]
  have hc := compP_map (cStep (callF D G n) G (.bin o (.subv 0 (.v 2)) (.subv 1 (.v 2))) (.v 2) [2] .no [.fz (.tup (a.map .int)), .fz (.tup (b.map .int)), .un]) (fun (i : Nat) => P.int (i : Int)) (fun i => .int (op (a.getD i 0) (b.getD i 0))) (List.range a.length) (fun i hi => by
    have hi := List.mem_range.mp hi
    have h1 := at_nat P.int (getD_at hi)
    have h2 := at_nat P.int (getD_at (a := b) (i := i) (by omega))
    simp [cStep, bindT, wipeS, v_v, v_c, v_g, v_bin, v_neg, v_not, v_cmp, v_chain, v_band, v_bor, v_ite, v_tup, v_lst, v_sub, v_subv, v_lenv, v_inv, v_lrng, v_slc, v_call, v_blt, evs, evAnd, evOr, evo, evc, evi, getS, subP, h1, h2, ho])
  obtain ⟨j, hj⟩ : ∃ j : Int, (a.length : Int) = j := ⟨_, rfl⟩
  have hjn : j.toNat = a.length := by omega
  have hk : rngOk j = true := rng_ok (by omega) (by omega)
  have hk2 : j ≤ 16777216 := by omega
  simp [run, x_cons, x_nil, x_set, x_new, x_bind, x_ret, x_eff, x_ite, x_app, x_ext, x_put, x_raise, x_frz, x_for, v_comp, v_v, v_c, v_g, v_bin, v_neg, v_not, v_cmp, v_chain, v_band, v_bor, v_ite, v_tup, v_lst, v_sub, v_subv, v_lenv, v_inv, v_lrng, v_slc, v_call, v_blt, evs, evAnd, evOr, evo, evc, evi, PL.start, getS, vP, bltP, asI, hj, hjn, hk, hk2, rngL_one, fin]
  rw [hc, range_zip op hab]
  simp
theorem e_lplus (n : Nat) (a b : Vec) (hl : a.length ≤ 1000) (h : a.length = b.length) : callF D G (n + 1) 29 [vP a, vP b] = .ok (vP (addV a b)) := e_pointwise n 29 _ .add (· + ·) rfl rfl (fun _ _ => rfl) a b hl h
theorem e_lminus (n : Nat) (a b : Vec) (hl : a.length ≤ 1000) (h : a.length = b.length) : callF D G (n + 1) 30 [vP a, vP b] = .ok (vP (subV a b)) := e_pointwise n 30 _ .sub (· - ·) rfl rfl (fun _ _ => rfl) a b hl h
theorem e_lfits (n : Nat) (a b : Vec) (hl : a.length ≤ 1000) (h : a.length = b.length) : callF D G (n + 1) 31 [vP a, vP b] = .ok (.bl (leV a b)) := by
  rw [c__law_fits]
  have hc := compP_map (cStep (callF D G n) G (.cmp .le (.subv 0 (.v 2)) (.subv 1 (.v 2))) (.v 2) [2] .no [.fz (.tup (a.map .int)), .fz (.tup (b.map .int)), .un]) (fun (i : Nat) => P.int (i : Int)) (fun i => .bl (decide (a.getD i 0 ≤ b.getD i 0))) (List.range a.length) (fun i hi => by
    have hi := List.mem_range.mp hi
    have h1 := at_nat P.int (getD_at hi)
    have h2 := at_nat P.int (getD_at (a := b) (i := i) (by omega))
    simp [cStep, bindT, wipeS, v_v, v_c, v_g, v_bin, v_neg, v_not, v_cmp, v_chain, v_band, v_bor, v_ite, v_tup, v_lst, v_sub, v_subv, v_lenv, v_inv, v_lrng, v_slc, v_call, v_blt, evs, evAnd, evOr, evo, evc, evi, getS, subP, h1, h2, cmpP])
  obtain ⟨j, hj⟩ : ∃ j : Int, (a.length : Int) = j := ⟨_, rfl⟩
  have hjn : j.toNat = a.length := by omega
  have hk : rngOk j = true := rng_ok (by omega) (by omega)
  have hk2 : j ≤ 16777216 := by omega
  have hq : ((List.range a.length).map fun i => decide (a.getD i 0 ≤ b.getD i 0)).all id = leV a b := by
    rw [Bool.eq_iff_iff, List.all_eq_true, KM.leV_iff h]
    constructor
    · intro q i x y hx hy
      have hi := (List.getElem?_eq_some_iff.mp hx).1
      have := q _ (List.mem_map.mpr ⟨i, List.mem_range.mpr hi, rfl⟩)
      have := of_decide_eq_true this
      rw [getD_at hi] at hx
      rw [getD_at (by omega)] at hy
      cases hx
      cases hy
      exact this
    · intro q z hz
      obtain ⟨i, hi, rfl⟩ := List.mem_map.mp hz
      have hi := List.mem_range.mp hi
      exact decide_eq_true (q i _ _ (getD_at hi) (getD_at (by omega)))
  simp [run, i__law_fits, x_cons, x_nil, x_set, x_new, x_bind, x_ret, x_eff, x_ite, x_app, x_ext, x_put, x_raise, x_frz, x_for, v_comp, v_v, v_c, v_g, v_bin, v_neg, v_not, v_cmp, v_chain, v_band, v_bor, v_ite, v_tup, v_lst, v_sub, v_subv, v_lenv, v_inv, v_lrng, v_slc, v_call, v_blt, evs, evAnd, evOr, evo, evc, evi, PL.start, getS, vP, bltP, asI, hj, hjn, hk, hk2, rngL_one, fin]
  rw [hc]
  simp only [Rs.bind_ok, boolsL_map, hq, seqO_rt]
theorem e_lcells (n : Nat) (v : Vec) (hv : smallB v) : callF D G (n + 1) 32 [vP v] = .ok (.int (prodB v)) := by
  rw [c__law_cells, ← cells_prod]
  simp [run, i__law_cells, x_cons, x_for, x_set, evi, ev, PL.start, getS, vP, wipeS, asS]
  generalize hs : loopStep _ _ _ _ _ = step
  have e := (forP_fold step P.int (fun c => [.fz (.tup (v.map .int)), .fz (.int c), .un]) (fun c m => c * (m + 1)) (fun _ => True) v 1 trivial (fun m hm c _ => ⟨by
    rw [← hs]
    have := hv m hm
    have hk : mulOk c (m + 1) = true := mul_ok (by omega) (by omega)
    simp [loopStep, bindT, x_cons, x_nil, x_set, ev, getS, binP, wipeS, hk], trivial⟩)).1
  rw [e]
  simp [x_cons, x_nil, x_ret, ev, getS, fin, cellsC]
theorem e_lmembers (n : Nat) (box : Vec) (hs : smallB box) (hl : box.length ≤ 1000) (hp : ¬ 2000 < prodB box) : callF D G (n + 1) 33 [vP box] = .ok (.lst ((members box).map vP)) := by
  rw [c__law_members]
  simp [run, i__law_members, x_cons, x_nil, x_set, x_new, x_bind, x_ret, x_eff, x_ite, x_app, x_ext, x_put, x_raise, x_frz, x_for, v_v, v_c, v_g, v_bin, v_neg, v_not, v_cmp, v_chain, v_band, v_bor, v_ite, v_tup, v_lst, v_sub, v_subv, v_lenv, v_inv, v_lrng, v_slc, v_call, v_blt, evs, evAnd, evOr, evo, evc, evi, PL.start, getS, vP, asS, wipeS]
  generalize hst : loopStep _ _ _ _ _ = step
  have e := (forP_foldR step P.int (fun s : List Vec => [.fz (.tup (box.map .int)), .fz (.lst (s.map vP)), .un, .un, .un, .un]) ext1
    (fun rem s => (s.length : Int) * prodB rem ≤ 2000 ∧ smallB rem ∧ ∀ v ∈ s, v.length + rem.length ≤ 1000) box [[]] ⟨by simpa using Int.not_lt.mp hp, hs, fun v hv => by
      have : v = [] := by simpa using hv
      subst this
      simpa using hl⟩ (fun m rem s ⟨i1, i2, i3⟩ => by
    have hm := i2 m List.mem_cons_self
    have hr : smallB rem := fun x hx => i2 x (List.mem_cons_of_mem _ hx)
    have hpp := KM.prodB_pos (smallB_nn hr)
    have el : ((ext1 s m).length : Int) = s.length * (m + 1) := by
      rw [KM.ext1_len, Int.natCast_mul, Int.toNat_of_nonneg (by omega)]
    have e2 : (s.length : Int) * ((m + 1) * prodB rem) ≤ 2000 := i1
    have e3 : ((ext1 s m).length : Int) * prodB rem ≤ 2000 := by rw [el, Int.mul_assoc]; exact e2
    have hlen : ((ext1 s m).length : Int) ≤ 2000 := by
      have : ((ext1 s m).length : Int) * 1 ≤ ((ext1 s m).length : Int) * prodB rem := Int.mul_le_mul_of_nonneg_left hpp (by omega)
      omega
    refine ⟨?_, e3, hr, fun v hv => ?_⟩
    · rw [← hst]
      have hk := rng_ok (j := m + 1) (by omega) (by omega)
      have hk2 : m + 1 ≤ 16777216 := by omega
      simp [loopStep, bindT, x_cons, x_nil, x_set, x_new, x_bind, x_ret, x_eff, x_ite, x_app, x_ext, x_put, x_raise, x_frz, x_for, v_v, v_c, v_g, v_bin, v_neg, v_not, v_cmp, v_chain, v_band, v_bor, v_ite, v_tup, v_lst, v_sub, v_subv, v_lenv, v_inv, v_lrng, v_slc, v_call, v_blt, evs, evAnd, evOr, evo, evc, evi, getS, newS, asS, wipeS]
      generalize hst2 : loopStep _ _ _ _ _ = step2
      have ee := (forP_foldR step2 vP (fun acc : List Vec => [.fz (.tup (box.map .int)), .fz (.lst (s.map vP)), .fz (.int m), .ow (acc.map vP), .un, .un]) (fun acc v => acc ++ (List.range (m + 1).toNat).map fun (e : Nat) => v ++ [(e : Int)])
        (fun rem2 acc => acc ++ ext1 rem2 m = ext1 s m ∧ ∀ v ∈ rem2, v ∈ s) s [] ⟨rfl, fun _ h => h⟩ (fun v rem2 acc ⟨j1, j2⟩ => by
        have hv3 := i3 v (j2 v List.mem_cons_self)
        have j1' : acc ++ (((List.range (m + 1).toNat).map fun (e : Nat) => v ++ [(e : Int)]) ++ ext1 rem2 m) = ext1 s m := j1
        refine ⟨?_, by rw [List.append_assoc]; exact j1', fun u hu => j2 u (List.mem_cons_of_mem _ hu)⟩
        rw [← hst2]
        have ei := compP_map (cStep (callF D G n) G (.bin .add (.v 4) (.tup (.cons (.v 5) .nil))) (.v 5) [5] .no [.fz (.tup (box.map .int)), .fz (.lst (s.map vP)), .fz (.int m), .ow (acc.map vP), .fz (vP v), .un]) (fun (i : Nat) => P.int (i : Int)) (fun k => vP (v ++ [(k : Int)])) (List.range (m + 1).toNat) (fun k _ => by
          have hbg : v.length + 1 ≤ big := by show v.length + 1 ≤ 16777216; simp at hv3; omega
          simp [cStep, bindT, wipeS, v_v, v_c, v_g, v_bin, v_neg, v_not, v_cmp, v_chain, v_band, v_bor, v_ite, v_tup, v_lst, v_sub, v_subv, v_lenv, v_inv, v_lrng, v_slc, v_call, v_blt, evs, evAnd, evOr, evo, evc, evi, getS, vP, binP, hbg])
        have hbl : acc.length + (m + 1).toNat ≤ big := by
          have := congrArg List.length j1'
          simp only [List.length_append, List.length_map, List.length_range] at this
          show acc.length + (m + 1).toNat ≤ 16777216
          omega
        simp [loopStep, bindT, x_cons, x_nil, x_set, x_new, x_bind, x_ret, x_eff, x_ite, x_app, x_ext, x_put, x_raise, x_frz, x_for, v_comp, v_v, v_c, v_g, v_bin, v_neg, v_not, v_cmp, v_chain, v_band, v_bor, v_ite, v_tup, v_lst, v_sub, v_subv, v_lenv, v_inv, v_lrng, v_slc, v_call, v_blt, evs, evAnd, evOr, evo, evc, evi, getS, owB, extS, asI, binP, hk, hk2, rngL_one, ei, hbl, wipeS, List.map_append, List.map_map, Function.comp_def])).1
      simp only [List.map_nil] at ee
      have ef : s.foldl (fun acc v => acc ++ (List.range (m + 1).toNat).map fun (e : Nat) => v ++ [(e : Int)]) [] = ext1 s m := by
        have key : ∀ (l a : List Vec), l.foldl (fun acc v => acc ++ (List.range (m + 1).toNat).map fun (e : Nat) => v ++ [(e : Int)]) a = a ++ ext1 l m := fun l => by
          induction l with
          | nil => intro a; simp [ext1]
          | cons x l ih =>
            intro a
            rw [List.foldl_cons, ih, List.append_assoc]
            rfl
        rw [key]; rfl
      rw [ee, ef]
      simp [x_cons, x_nil, x_set, x_new, x_bind, x_ret, x_eff, x_ite, x_app, x_ext, x_put, x_raise, x_frz, x_for, v_v, v_c, v_g, v_bin, v_neg, v_not, v_cmp, v_chain, v_band, v_bor, v_ite, v_tup, v_lst, v_sub, v_subv, v_lenv, v_inv, v_lrng, v_slc, v_call, v_blt, evs, evAnd, evOr, evo, evc, evi, getS, frzS, freezeS, wipeS]
    · unfold ext1 at hv
      obtain ⟨u, hu, hv⟩ := List.mem_flatMap.mp hv
      obtain ⟨k, _, rfl⟩ := List.mem_map.mp hv
      have := i3 u hu
      simp at this ⊢
      omega)).1
  have h0 : ([[]] : List Vec).map vP = [.tup []] := rfl
  rw [h0] at e
  rw [e]
  simp [x_cons, x_nil, x_set, x_new, x_bind, x_ret, x_eff, x_ite, x_app, x_ext, x_put, x_raise, x_frz, x_for, v_v, v_c, v_g, v_bin, v_neg, v_not, v_cmp, v_chain, v_band, v_bor, v_ite, v_tup, v_lst, v_sub, v_subv, v_lenv, v_inv, v_lrng, v_slc, v_call, v_blt, evs, evAnd, evOr, evo, evc, evi, getS, fin, members]
end K50
end

section
set_option Elab.async false
set_option linter.all false
set_option maxRecDepth 100000
set_option maxHeartbeats 1000000
/-! PW: the rules of a walk, no lambda in sight (printed by mkpw.py). -/
namespace PL
open Rs
theorem nd {α : Type} {a b : α} (h : a = b) : a = b := h
section
variable (Γ : Nat → List P → Rs P) (G : Nat → P)
def kBl  (r : Rs Bool) : Rs P := r.bind fun b => .ok (.bl b)
@[simp] theorem kBl_0  (b : Bool) : kBl  (.ok b) = .ok (.bl b) := nd rfl
@[simp] theorem kBl_e  (xe_ : Exn) : kBl  (.exc xe_) = .exc xe_ := nd rfl
@[simp] theorem kBl_b  : kBl  .bad = .bad := nd rfl
def kAsB  (r : Rs P) : Rs P := r.bind fun x => (asB x).bind fun b => .ok (.bl b)
@[simp] theorem kAsB_0  (b : Bool) : kAsB  (.ok (.bl b)) = .ok (.bl b) := nd rfl
@[simp] theorem kAsB_e  (xe_ : Exn) : kAsB  (.exc xe_) = .exc xe_ := nd rfl
@[simp] theorem kAsB_b  : kAsB  .bad = .bad := nd rfl
def kBin3 (o : BOp) (x : P) (r : Rs P) : Rs P := r.bind fun y => binP o x y
@[simp] theorem kBin3_0 (o : BOp) (x : P) (y : P) : kBin3 o x (.ok y) = binP o x y := nd rfl
@[simp] theorem kBin3_e (o : BOp) (x : P) (xe_ : Exn) : kBin3 o x (.exc xe_) = .exc xe_ := nd rfl
@[simp] theorem kBin3_b (o : BOp) (x : P) : kBin3 o x .bad = .bad := nd rfl
def kBin2 (o : BOp) (b : IE) (ρ : Ev) (r : Rs P) : Rs P := r.bind fun x => (ev Γ G b ρ).bind fun y => binP o x y
@[simp] theorem kBin2_0 (o : BOp) (b : IE) (ρ : Ev) (x : P) : kBin2 Γ G o b ρ (.ok x) = kBin3 o x (ev Γ G b ρ) := nd rfl
@[simp] theorem kBin2_e (o : BOp) (b : IE) (ρ : Ev) (xe_ : Exn) : kBin2 Γ G o b ρ (.exc xe_) = .exc xe_ := nd rfl
@[simp] theorem kBin2_b (o : BOp) (b : IE) (ρ : Ev) : kBin2 Γ G o b ρ .bad = .bad := nd rfl
def kNeg  (r : Rs P) : Rs P := r.bind fun x => (asI x).bind fun i => .ok (.int (-i))
@[simp] theorem kNeg_0  (i : Int) : kNeg  (.ok (.int i)) = .ok (.int (-i)) := nd rfl
@[simp] theorem kNeg_e  (xe_ : Exn) : kNeg  (.exc xe_) = .exc xe_ := nd rfl
@[simp] theorem kNeg_b  : kNeg  .bad = .bad := nd rfl
def kNot  (r : Rs P) : Rs P := r.bind fun x => (asB x).bind fun b => .ok (.bl (!b))
@[simp] theorem kNot_0  (b : Bool) : kNot  (.ok (.bl b)) = .ok (.bl (!b)) := nd rfl
@[simp] theorem kNot_e  (xe_ : Exn) : kNot  (.exc xe_) = .exc xe_ := nd rfl
@[simp] theorem kNot_b  : kNot  .bad = .bad := nd rfl
def kCmp3 (o : COp) (x : P) (r : Rs P) : Rs P := r.bind fun y => (cmpP o x y).bind fun b => .ok (.bl b)
@[simp] theorem kCmp3_0 (o : COp) (x : P) (y : P) : kCmp3 o x (.ok y) = kBl (cmpP o x y) := nd rfl
@[simp] theorem kCmp3_e (o : COp) (x : P) (xe_ : Exn) : kCmp3 o x (.exc xe_) = .exc xe_ := nd rfl
@[simp] theorem kCmp3_b (o : COp) (x : P) : kCmp3 o x .bad = .bad := nd rfl
def kCmp2 (o : COp) (b : IE) (ρ : Ev) (r : Rs P) : Rs P := r.bind fun x => (ev Γ G b ρ).bind fun y => (cmpP o x y).bind fun b => .ok (.bl b)
@[simp] theorem kCmp2_0 (o : COp) (b : IE) (ρ : Ev) (x : P) : kCmp2 Γ G o b ρ (.ok x) = kCmp3 o x (ev Γ G b ρ) := nd rfl
@[simp] theorem kCmp2_e (o : COp) (b : IE) (ρ : Ev) (xe_ : Exn) : kCmp2 Γ G o b ρ (.exc xe_) = .exc xe_ := nd rfl
@[simp] theorem kCmp2_b (o : COp) (b : IE) (ρ : Ev) : kCmp2 Γ G o b ρ .bad = .bad := nd rfl
def kCh4 (o : COp) (y : P) (c : IE) (ρ : Ev) (r : Rs Bool) : Rs P := r.bind fun k => if k then (ev Γ G c ρ).bind fun z => (cmpP o y z).bind fun b => .ok (.bl b) else .ok (.bl false)
@[simp] theorem kCh4_0 (o : COp) (y : P) (c : IE) (ρ : Ev)  : kCh4 Γ G o y c ρ (.ok true) = kCmp3 o y (ev Γ G c ρ) := nd rfl
@[simp] theorem kCh4_1 (o : COp) (y : P) (c : IE) (ρ : Ev)  : kCh4 Γ G o y c ρ (.ok false) = .ok (.bl false) := nd rfl
@[simp] theorem kCh4_e (o : COp) (y : P) (c : IE) (ρ : Ev) (xe_ : Exn) : kCh4 Γ G o y c ρ (.exc xe_) = .exc xe_ := nd rfl
@[simp] theorem kCh4_b (o : COp) (y : P) (c : IE) (ρ : Ev) : kCh4 Γ G o y c ρ .bad = .bad := nd rfl
def kCh3 (o : COp) (o' : COp) (x : P) (c : IE) (ρ : Ev) (r : Rs P) : Rs P := r.bind fun y => (cmpP o x y).bind fun k => if k then (ev Γ G c ρ).bind fun z => (cmpP o' y z).bind fun b => .ok (.bl b) else .ok (.bl false)
@[simp] theorem kCh3_0 (o : COp) (o' : COp) (x : P) (c : IE) (ρ : Ev) (y : P) : kCh3 Γ G o o' x c ρ (.ok y) = kCh4 Γ G o' y c ρ (cmpP o x y) := nd rfl
@[simp] theorem kCh3_e (o : COp) (o' : COp) (x : P) (c : IE) (ρ : Ev) (xe_ : Exn) : kCh3 Γ G o o' x c ρ (.exc xe_) = .exc xe_ := nd rfl
@[simp] theorem kCh3_b (o : COp) (o' : COp) (x : P) (c : IE) (ρ : Ev) : kCh3 Γ G o o' x c ρ .bad = .bad := nd rfl
def kCh2 (o : COp) (o' : COp) (b : IE) (c : IE) (ρ : Ev) (r : Rs P) : Rs P := r.bind fun x => (ev Γ G b ρ).bind fun y => (cmpP o x y).bind fun k => if k then (ev Γ G c ρ).bind fun z => (cmpP o' y z).bind fun b => .ok (.bl b) else .ok (.bl false)
@[simp] theorem kCh2_0 (o : COp) (o' : COp) (b : IE) (c : IE) (ρ : Ev) (x : P) : kCh2 Γ G o o' b c ρ (.ok x) = kCh3 Γ G o o' x c ρ (ev Γ G b ρ) := nd rfl
@[simp] theorem kCh2_e (o : COp) (o' : COp) (b : IE) (c : IE) (ρ : Ev) (xe_ : Exn) : kCh2 Γ G o o' b c ρ (.exc xe_) = .exc xe_ := nd rfl
@[simp] theorem kCh2_b (o : COp) (o' : COp) (b : IE) (c : IE) (ρ : Ev) : kCh2 Γ G o o' b c ρ .bad = .bad := nd rfl
def kAnd (es : IEs) (ρ : Ev) (r : Rs P) : Rs P := r.bind fun x => (asB x).bind fun b => if b then evAnd Γ G es ρ else .ok (.bl false)
@[simp] theorem kAnd_0 (es : IEs) (ρ : Ev)  : kAnd Γ G es ρ (.ok (.bl true)) = evAnd Γ G es ρ := nd rfl
@[simp] theorem kAnd_1 (es : IEs) (ρ : Ev)  : kAnd Γ G es ρ (.ok (.bl false)) = .ok (.bl false) := nd rfl
@[simp] theorem kAnd_e (es : IEs) (ρ : Ev) (xe_ : Exn) : kAnd Γ G es ρ (.exc xe_) = .exc xe_ := nd rfl
@[simp] theorem kAnd_b (es : IEs) (ρ : Ev) : kAnd Γ G es ρ .bad = .bad := nd rfl
def kOr (es : IEs) (ρ : Ev) (r : Rs P) : Rs P := r.bind fun x => (asB x).bind fun b => if b then .ok (.bl true) else evOr Γ G es ρ
@[simp] theorem kOr_0 (es : IEs) (ρ : Ev)  : kOr Γ G es ρ (.ok (.bl true)) = .ok (.bl true) := nd rfl
@[simp] theorem kOr_1 (es : IEs) (ρ : Ev)  : kOr Γ G es ρ (.ok (.bl false)) = evOr Γ G es ρ := nd rfl
@[simp] theorem kOr_e (es : IEs) (ρ : Ev) (xe_ : Exn) : kOr Γ G es ρ (.exc xe_) = .exc xe_ := nd rfl
@[simp] theorem kOr_b (es : IEs) (ρ : Ev) : kOr Γ G es ρ .bad = .bad := nd rfl
def kIf (a : IE) (b : IE) (ρ : Ev) (r : Rs P) : Rs P := r.bind fun x => (asB x).bind fun k => if k then ev Γ G a ρ else ev Γ G b ρ
@[simp] theorem kIf_0 (a : IE) (b : IE) (ρ : Ev)  : kIf Γ G a b ρ (.ok (.bl true)) = ev Γ G a ρ := nd rfl
@[simp] theorem kIf_1 (a : IE) (b : IE) (ρ : Ev)  : kIf Γ G a b ρ (.ok (.bl false)) = ev Γ G b ρ := nd rfl
@[simp] theorem kIf_e (a : IE) (b : IE) (ρ : Ev) (xe_ : Exn) : kIf Γ G a b ρ (.exc xe_) = .exc xe_ := nd rfl
@[simp] theorem kIf_b (a : IE) (b : IE) (ρ : Ev) : kIf Γ G a b ρ .bad = .bad := nd rfl
def kCons (x : P) (r : Rs (List P)) : Rs (List P) := r.bind fun xs => .ok (x :: xs)
@[simp] theorem kCons_0 (x : P) (xs : List P) : kCons x (.ok xs) = .ok (x :: xs) := nd rfl
@[simp] theorem kCons_e (x : P) (xe_ : Exn) : kCons x (.exc xe_) = .exc xe_ := nd rfl
@[simp] theorem kCons_b (x : P) : kCons x .bad = .bad := nd rfl
def kEvs (es : IEs) (ρ : Ev) (r : Rs P) : Rs (List P) := r.bind fun x => (evs Γ G es ρ).bind fun xs => .ok (x :: xs)
@[simp] theorem kEvs_0 (es : IEs) (ρ : Ev) (x : P) : kEvs Γ G es ρ (.ok x) = kCons x (evs Γ G es ρ) := nd rfl
@[simp] theorem kEvs_e (es : IEs) (ρ : Ev) (xe_ : Exn) : kEvs Γ G es ρ (.exc xe_) = .exc xe_ := nd rfl
@[simp] theorem kEvs_b (es : IEs) (ρ : Ev) : kEvs Γ G es ρ .bad = .bad := nd rfl
def kTup  (r : Rs (List P)) : Rs P := r.bind fun xs => .ok (.tup xs)
@[simp] theorem kTup_0  (xs : List P) : kTup  (.ok xs) = .ok (.tup xs) := nd rfl
@[simp] theorem kTup_e  (xe_ : Exn) : kTup  (.exc xe_) = .exc xe_ := nd rfl
@[simp] theorem kTup_b  : kTup  .bad = .bad := nd rfl
def kLst  (r : Rs (List P)) : Rs P := r.bind fun xs => .ok (.lst xs)
@[simp] theorem kLst_0  (xs : List P) : kLst  (.ok xs) = .ok (.lst xs) := nd rfl
@[simp] theorem kLst_e  (xe_ : Exn) : kLst  (.exc xe_) = .exc xe_ := nd rfl
@[simp] theorem kLst_b  : kLst  .bad = .bad := nd rfl
def kSub3 (x : P) (r : Rs P) : Rs P := r.bind fun y => subP x y
@[simp] theorem kSub3_0 (x : P) (y : P) : kSub3 x (.ok y) = subP x y := nd rfl
@[simp] theorem kSub3_e (x : P) (xe_ : Exn) : kSub3 x (.exc xe_) = .exc xe_ := nd rfl
@[simp] theorem kSub3_b (x : P) : kSub3 x .bad = .bad := nd rfl
def kSub2 (i : IE) (ρ : Ev) (r : Rs P) : Rs P := r.bind fun x => (ev Γ G i ρ).bind fun y => subP x y
@[simp] theorem kSub2_0 (i : IE) (ρ : Ev) (x : P) : kSub2 Γ G i ρ (.ok x) = kSub3 x (ev Γ G i ρ) := nd rfl
@[simp] theorem kSub2_e (i : IE) (ρ : Ev) (xe_ : Exn) : kSub2 Γ G i ρ (.exc xe_) = .exc xe_ := nd rfl
@[simp] theorem kSub2_b (i : IE) (ρ : Ev) : kSub2 Γ G i ρ .bad = .bad := nd rfl
def kSo  (r : Rs P) : Rs (Option Int) := r.bind fun x => (asI x).bind fun i => .ok (some i)
@[simp] theorem kSo_0  (i : Int) : kSo  (.ok (.int i)) = .ok (some i) := nd rfl
@[simp] theorem kSo_e  (xe_ : Exn) : kSo  (.exc xe_) = .exc xe_ := nd rfl
@[simp] theorem kSo_b  : kSo  .bad = .bad := nd rfl
def kSlc4 (x : P) (l : Option Int) (r : Rs (Option Int)) : Rs P := r.bind fun h => slcP l h x
@[simp] theorem kSlc4_0 (x : P) (l : Option Int) (h : Option Int) : kSlc4 x l (.ok h) = slcP l h x := nd rfl
@[simp] theorem kSlc4_e (x : P) (l : Option Int) (xe_ : Exn) : kSlc4 x l (.exc xe_) = .exc xe_ := nd rfl
@[simp] theorem kSlc4_b (x : P) (l : Option Int) : kSlc4 x l .bad = .bad := nd rfl
def kSlc3 (x : P) (hi : IEo) (ρ : Ev) (r : Rs (Option Int)) : Rs P := r.bind fun l => (evo Γ G hi ρ).bind fun h => slcP l h x
@[simp] theorem kSlc3_0 (x : P) (hi : IEo) (ρ : Ev) (l : Option Int) : kSlc3 Γ G x hi ρ (.ok l) = kSlc4 x l (evo Γ G hi ρ) := nd rfl
@[simp] theorem kSlc3_e (x : P) (hi : IEo) (ρ : Ev) (xe_ : Exn) : kSlc3 Γ G x hi ρ (.exc xe_) = .exc xe_ := nd rfl
@[simp] theorem kSlc3_b (x : P) (hi : IEo) (ρ : Ev) : kSlc3 Γ G x hi ρ .bad = .bad := nd rfl
def kSlc2 (lo : IEo) (hi : IEo) (ρ : Ev) (r : Rs P) : Rs P := r.bind fun x => (evo Γ G lo ρ).bind fun l => (evo Γ G hi ρ).bind fun h => slcP l h x
@[simp] theorem kSlc2_0 (lo : IEo) (hi : IEo) (ρ : Ev) (x : P) : kSlc2 Γ G lo hi ρ (.ok x) = kSlc3 Γ G x hi ρ (evo Γ G lo ρ) := nd rfl
@[simp] theorem kSlc2_e (lo : IEo) (hi : IEo) (ρ : Ev) (xe_ : Exn) : kSlc2 Γ G lo hi ρ (.exc xe_) = .exc xe_ := nd rfl
@[simp] theorem kSlc2_b (lo : IEo) (hi : IEo) (ρ : Ev) : kSlc2 Γ G lo hi ρ .bad = .bad := nd rfl
def kCall (f : Nat) (r : Rs (List P)) : Rs P := r.bind fun xs => Γ f xs
@[simp] theorem kCall_0 (f : Nat) (xs : List P) : kCall Γ f (.ok xs) = Γ f xs := nd rfl
@[simp] theorem kCall_e (f : Nat) (xe_ : Exn) : kCall Γ f (.exc xe_) = .exc xe_ := nd rfl
@[simp] theorem kCall_b (f : Nat) : kCall Γ f .bad = .bad := nd rfl
def kBlt (f : Blt) (r : Rs (List P)) : Rs P := r.bind fun xs => bltP f xs
@[simp] theorem kBlt_0 (f : Blt) (xs : List P) : kBlt f (.ok xs) = bltP f xs := nd rfl
@[simp] theorem kBlt_e (f : Blt) (xe_ : Exn) : kBlt f (.exc xe_) = .exc xe_ := nd rfl
@[simp] theorem kBlt_b (f : Blt) : kBlt f .bad = .bad := nd rfl
def kSome  (r : Rs P) : Rs (Option P) := r.bind fun y => .ok (some y)
@[simp] theorem kSome_0  (y : P) : kSome  (.ok y) = .ok (some y) := nd rfl
@[simp] theorem kSome_e  (xe_ : Exn) : kSome  (.exc xe_) = .exc xe_ := nd rfl
@[simp] theorem kSome_b  : kSome  .bad = .bad := nd rfl
def kC2 (e : IE) (ρ : Ev) (r : Rs Bool) : Rs (Option P) := r.bind fun k => if k then (ev Γ G e ρ).bind fun y => .ok (some y) else .ok none
@[simp] theorem kC2_0 (e : IE) (ρ : Ev)  : kC2 Γ G e ρ (.ok true) = kSome (ev Γ G e ρ) := nd rfl
@[simp] theorem kC2_1 (e : IE) (ρ : Ev)  : kC2 Γ G e ρ (.ok false) = .ok none := nd rfl
@[simp] theorem kC2_e (e : IE) (ρ : Ev) (xe_ : Exn) : kC2 Γ G e ρ (.exc xe_) = .exc xe_ := nd rfl
@[simp] theorem kC2_b (e : IE) (ρ : Ev) : kC2 Γ G e ρ .bad = .bad := nd rfl
def kC1 (e : IE) (c : IEo) (r : Rs Ev) : Rs (Option P) := r.bind fun ρ1 => (evc Γ G c ρ1).bind fun k => if k then (ev Γ G e ρ1).bind fun y => .ok (some y) else .ok none
@[simp] theorem kC1_0 (e : IE) (c : IEo) (ρ1 : Ev) : kC1 Γ G e c (.ok ρ1) = kC2 Γ G e ρ1 (evc Γ G c ρ1) := nd rfl
@[simp] theorem kC1_e (e : IE) (c : IEo) (xe_ : Exn) : kC1 Γ G e c (.exc xe_) = .exc xe_ := nd rfl
@[simp] theorem kC1_b (e : IE) (c : IEo) : kC1 Γ G e c .bad = .bad := nd rfl
def cSt (e : IE) (t : Tg) (own : List Nat) (c : IEo) (ρ : Ev) (x : P) : Rs (Option P) := (bindT t x (wipeS own ρ)).bind fun ρ1 => (evc Γ G c ρ1).bind fun k => if k then (ev Γ G e ρ1).bind fun y => .ok (some y) else .ok none
@[simp] theorem cSt_x (e : IE) (t : Tg) (own : List Nat) (c : IEo) (ρ : Ev) (x : P) : cSt Γ G e t own c ρ x = kC1 Γ G e c (bindT t x (wipeS own ρ)) := nd rfl
def kComp (e : IE) (t : Tg) (own : List Nat) (c : IEo) (ρ : Ev) (r : Rs (List P)) : Rs P := r.bind fun xs => (compP (cSt Γ G e t own c ρ) xs).bind fun ys => .ok (.lst ys)
@[simp] theorem kComp_0 (e : IE) (t : Tg) (own : List Nat) (c : IEo) (ρ : Ev) (xs : List P) : kComp Γ G e t own c ρ (.ok xs) = kLst (compP (cSt Γ G e t own c ρ) xs) := nd rfl
@[simp] theorem kComp_e (e : IE) (t : Tg) (own : List Nat) (c : IEo) (ρ : Ev) (xe_ : Exn) : kComp Γ G e t own c ρ (.exc xe_) = .exc xe_ := nd rfl
@[simp] theorem kComp_b (e : IE) (t : Tg) (own : List Nat) (c : IEo) (ρ : Ev) : kComp Γ G e t own c ρ .bad = .bad := nd rfl
def kD2 (e : IE) (t : Tg) (own : List Nat) (c : IEo) (ρ : Ev) (r : Rs (List P)) : Rs (List P) := r.bind fun xs => compP (cSt Γ G e t own c ρ) xs
@[simp] theorem kD2_0 (e : IE) (t : Tg) (own : List Nat) (c : IEo) (ρ : Ev) (xs : List P) : kD2 Γ G e t own c ρ (.ok xs) = compP (cSt Γ G e t own c ρ) xs := nd rfl
@[simp] theorem kD2_e (e : IE) (t : Tg) (own : List Nat) (c : IEo) (ρ : Ev) (xe_ : Exn) : kD2 Γ G e t own c ρ (.exc xe_) = .exc xe_ := nd rfl
@[simp] theorem kD2_b (e : IE) (t : Tg) (own : List Nat) (c : IEo) (ρ : Ev) : kD2 Γ G e t own c ρ .bad = .bad := nd rfl
def kD1 (e : IE) (t : Tg) (own : List Nat) (it : II) (c : IEo) (r : Rs Ev) : Rs (List P) := r.bind fun ρ1 => (evi Γ G it ρ1).bind fun xs => compP (cSt Γ G e t own c ρ1) xs
@[simp] theorem kD1_0 (e : IE) (t : Tg) (own : List Nat) (it : II) (c : IEo) (ρ1 : Ev) : kD1 Γ G e t own it c (.ok ρ1) = kD2 Γ G e t own c ρ1 (evi Γ G it ρ1) := nd rfl
@[simp] theorem kD1_e (e : IE) (t : Tg) (own : List Nat) (it : II) (c : IEo) (xe_ : Exn) : kD1 Γ G e t own it c (.exc xe_) = .exc xe_ := nd rfl
@[simp] theorem kD1_b (e : IE) (t : Tg) (own : List Nat) (it : II) (c : IEo) : kD1 Γ G e t own it c .bad = .bad := nd rfl
def cSt2 (e : IE) (t : Tg) (own : List Nat) (t2 : Tg) (own2 : List Nat) (it2 : II) (c : IEo) (ρ : Ev) (x : P) : Rs (List P) := (bindT t x (wipeS own ρ)).bind fun ρ1 => (evi Γ G it2 ρ1).bind fun xs2 => compP (cSt Γ G e t2 own2 c ρ1) xs2
@[simp] theorem cSt2_x (e : IE) (t : Tg) (own : List Nat) (t2 : Tg) (own2 : List Nat) (it2 : II) (c : IEo) (ρ : Ev) (x : P) : cSt2 Γ G e t own t2 own2 it2 c ρ x = kD1 Γ G e t2 own2 it2 c (bindT t x (wipeS own ρ)) := nd rfl
def kLb  (r : Rs (List P)) : Rs P := r.bind fun ys => when (decide (ys.length ≤ big)) (.ok (.lst ys))
@[simp] theorem kLb_0  (ys : List P) : kLb  (.ok ys) = when (decide (ys.length ≤ big)) (.ok (.lst ys)) := nd rfl
@[simp] theorem kLb_e  (xe_ : Exn) : kLb  (.exc xe_) = .exc xe_ := nd rfl
@[simp] theorem kLb_b  : kLb  .bad = .bad := nd rfl
def kComp2 (e : IE) (t : Tg) (own : List Nat) (t2 : Tg) (own2 : List Nat) (it2 : II) (c : IEo) (ρ : Ev) (r : Rs (List P)) : Rs P := r.bind fun xs => (compP2 (cSt2 Γ G e t own t2 own2 it2 c ρ) xs).bind fun ys => when (decide (ys.length ≤ big)) (.ok (.lst ys))
@[simp] theorem kComp2_0 (e : IE) (t : Tg) (own : List Nat) (t2 : Tg) (own2 : List Nat) (it2 : II) (c : IEo) (ρ : Ev) (xs : List P) : kComp2 Γ G e t own t2 own2 it2 c ρ (.ok xs) = kLb (compP2 (cSt2 Γ G e t own t2 own2 it2 c ρ) xs) := nd rfl
@[simp] theorem kComp2_e (e : IE) (t : Tg) (own : List Nat) (t2 : Tg) (own2 : List Nat) (it2 : II) (c : IEo) (ρ : Ev) (xe_ : Exn) : kComp2 Γ G e t own t2 own2 it2 c ρ (.exc xe_) = .exc xe_ := nd rfl
@[simp] theorem kComp2_b (e : IE) (t : Tg) (own : List Nat) (t2 : Tg) (own2 : List Nat) (it2 : II) (c : IEo) (ρ : Ev) : kComp2 Γ G e t own t2 own2 it2 c ρ .bad = .bad := nd rfl
def kAsS  (r : Rs P) : Rs (List P) := r.bind asS
@[simp] theorem kAsS_0  (p : P) : kAsS  (.ok p) = asS p := nd rfl
@[simp] theorem kAsS_e  (xe_ : Exn) : kAsS  (.exc xe_) = .exc xe_ := nd rfl
@[simp] theorem kAsS_b  : kAsS  .bad = .bad := nd rfl
def kTst  (r : Rs P) : Rs Bool := r.bind asB
@[simp] theorem kTst_0  (b : Bool) : kTst  (.ok (.bl b)) = .ok b := nd rfl
@[simp] theorem kTst_e  (xe_ : Exn) : kTst  (.exc xe_) = .exc xe_ := nd rfl
@[simp] theorem kTst_b  : kTst  .bad = .bad := nd rfl
def kR1  (r : Rs P) : Rs (List P) := r.bind fun x => (asI x).bind fun j => when (rngOk j && decide (j ≤ big)) (.ok (rngL 0 j.toNat 1))
@[simp] theorem kR1_0  (j : Int) : kR1  (.ok (.int j)) = when (rngOk j && decide (j ≤ big)) (.ok (rngL 0 j.toNat 1)) := nd rfl
@[simp] theorem kR1_e  (xe_ : Exn) : kR1  (.exc xe_) = .exc xe_ := nd rfl
@[simp] theorem kR1_b  : kR1  .bad = .bad := nd rfl
def kR2b (i : Int) (r : Rs P) : Rs (List P) := r.bind fun y => (asI y).bind fun j => when (rngOk i && rngOk j && decide (j - i ≤ big)) (.ok (rngL i (j - i).toNat 1))
@[simp] theorem kR2b_0 (i : Int) (j : Int) : kR2b i (.ok (.int j)) = when (rngOk i && rngOk j && decide (j - i ≤ big)) (.ok (rngL i (j - i).toNat 1)) := nd rfl
@[simp] theorem kR2b_e (i : Int) (xe_ : Exn) : kR2b i (.exc xe_) = .exc xe_ := nd rfl
@[simp] theorem kR2b_b (i : Int) : kR2b i .bad = .bad := nd rfl
def kR2 (b : IE) (ρ : Ev) (r : Rs P) : Rs (List P) := r.bind fun x => (ev Γ G b ρ).bind fun y => (asI x).bind fun i => (asI y).bind fun j => when (rngOk i && rngOk j && decide (j - i ≤ big)) (.ok (rngL i (j - i).toNat 1))
@[simp] theorem kR2_0 (b : IE) (ρ : Ev) (i : Int) : kR2 Γ G b ρ (.ok (.int i)) = kR2b i (ev Γ G b ρ) := nd rfl
@[simp] theorem kR2_e (b : IE) (ρ : Ev) (xe_ : Exn) : kR2 Γ G b ρ (.exc xe_) = .exc xe_ := nd rfl
@[simp] theorem kR2_b (b : IE) (ρ : Ev) : kR2 Γ G b ρ .bad = .bad := nd rfl
def kR3c (i : Int) (j : Int) (r : Rs P) : Rs (List P) := r.bind fun z => (asI z).bind fun k => when (rngOk i && rngOk j && decide (k = -1) && decide (i - j ≤ big)) (.ok (rngL i (i - j).toNat (-1)))
@[simp] theorem kR3c_0 (i : Int) (j : Int) (k : Int) : kR3c i j (.ok (.int k)) = when (rngOk i && rngOk j && decide (k = -1) && decide (i - j ≤ big)) (.ok (rngL i (i - j).toNat (-1))) := nd rfl
@[simp] theorem kR3c_e (i : Int) (j : Int) (xe_ : Exn) : kR3c i j (.exc xe_) = .exc xe_ := nd rfl
@[simp] theorem kR3c_b (i : Int) (j : Int) : kR3c i j .bad = .bad := nd rfl
def kR3b (i : Int) (c : IE) (ρ : Ev) (r : Rs P) : Rs (List P) := r.bind fun y => (ev Γ G c ρ).bind fun z => (asI y).bind fun j => (asI z).bind fun k => when (rngOk i && rngOk j && decide (k = -1) && decide (i - j ≤ big)) (.ok (rngL i (i - j).toNat (-1)))
@[simp] theorem kR3b_0 (i : Int) (c : IE) (ρ : Ev) (j : Int) : kR3b Γ G i c ρ (.ok (.int j)) = kR3c i j (ev Γ G c ρ) := nd rfl
@[simp] theorem kR3b_e (i : Int) (c : IE) (ρ : Ev) (xe_ : Exn) : kR3b Γ G i c ρ (.exc xe_) = .exc xe_ := nd rfl
@[simp] theorem kR3b_b (i : Int) (c : IE) (ρ : Ev) : kR3b Γ G i c ρ .bad = .bad := nd rfl
def kR3 (b : IE) (c : IE) (ρ : Ev) (r : Rs P) : Rs (List P) := r.bind fun x => (ev Γ G b ρ).bind fun y => (ev Γ G c ρ).bind fun z => (asI x).bind fun i => (asI y).bind fun j => (asI z).bind fun k => when (rngOk i && rngOk j && decide (k = -1) && decide (i - j ≤ big)) (.ok (rngL i (i - j).toNat (-1)))
@[simp] theorem kR3_0 (b : IE) (c : IE) (ρ : Ev) (i : Int) : kR3 Γ G b c ρ (.ok (.int i)) = kR3b Γ G i c ρ (ev Γ G b ρ) := nd rfl
@[simp] theorem kR3_e (b : IE) (c : IE) (ρ : Ev) (xe_ : Exn) : kR3 Γ G b c ρ (.exc xe_) = .exc xe_ := nd rfl
@[simp] theorem kR3_b (b : IE) (c : IE) (ρ : Ev) : kR3 Γ G b c ρ .bad = .bad := nd rfl
def kZ2 (x : P) (r : Rs P) : Rs (List P) := r.bind fun y => zipP x y
@[simp] theorem kZ2_0 (x : P) (y : P) : kZ2 x (.ok y) = zipP x y := nd rfl
@[simp] theorem kZ2_e (x : P) (xe_ : Exn) : kZ2 x (.exc xe_) = .exc xe_ := nd rfl
@[simp] theorem kZ2_b (x : P) : kZ2 x .bad = .bad := nd rfl
def kZ (b : IE) (ρ : Ev) (r : Rs P) : Rs (List P) := r.bind fun x => (ev Γ G b ρ).bind fun y => zipP x y
@[simp] theorem kZ_0 (b : IE) (ρ : Ev) (x : P) : kZ Γ G b ρ (.ok x) = kZ2 x (ev Γ G b ρ) := nd rfl
@[simp] theorem kZ_e (b : IE) (ρ : Ev) (xe_ : Exn) : kZ Γ G b ρ (.exc xe_) = .exc xe_ := nd rfl
@[simp] theorem kZ_b (b : IE) (ρ : Ev) : kZ Γ G b ρ .bad = .bad := nd rfl
def kEn  (r : Rs P) : Rs (List P) := r.bind fun x => enumP x
@[simp] theorem kEn_0  (x : P) : kEn  (.ok x) = enumP x := nd rfl
@[simp] theorem kEn_e  (xe_ : Exn) : kEn  (.exc xe_) = .exc xe_ := nd rfl
@[simp] theorem kEn_b  : kEn  .bad = .bad := nd rfl
def kSubv (x : IE) (ρ : Ev) (s : Option Sl) : Rs P := match s with
    | some (.fz p) => (ev Γ G x ρ).bind fun y => subP p y
    | some (.ow xs) => (ev Γ G x ρ).bind fun y => subP (.lst xs) y
    | some (.od kvs) => (ev Γ G x ρ).bind fun y => subP (.dic kvs) y
    | _ => .bad
@[simp] theorem kSubv_0 (x : IE) (ρ : Ev) (p : P) : kSubv Γ G x ρ (some (.fz p)) = kSub3 p (ev Γ G x ρ) := nd rfl
@[simp] theorem kSubv_1 (x : IE) (ρ : Ev) (xs : List P) : kSubv Γ G x ρ (some (.ow xs)) = kSub3 (.lst xs) (ev Γ G x ρ) := nd rfl
@[simp] theorem kSubv_2 (x : IE) (ρ : Ev) (xs : List (List Int × P)) : kSubv Γ G x ρ (some (.od xs)) = kSub3 (.dic xs) (ev Γ G x ρ) := nd rfl
def kLen (s : Option Sl) : Rs P := match s with
    | some (.fz p) => bltP .len [p]
    | some (.ow xs) => .ok (.int xs.length)
    | _ => .bad
@[simp] theorem kLen_0 (p : P) : kLen (some (.fz p)) = bltP .len [p] := nd rfl
@[simp] theorem kLen_1 (xs : List P) : kLen (some (.ow xs)) = .ok (.int xs.length) := nd rfl
def kInv2 (neg : Bool) (r : Rs Bool) : Rs P := r.bind fun b => .ok (.bl (if neg then !b else b))
@[simp] theorem kInv2_0 (neg b : Bool) : kInv2 neg (.ok b) = .ok (.bl (if neg then !b else b)) := nd rfl
def kInv (neg : Bool) (s : Option Sl) (r : Rs P) : Rs P := r.bind fun x => match s with
    | some (.fz p) => (inP x p).bind fun b => .ok (.bl (if neg then !b else b))
    | some (.ow xs) => (inP x (.lst xs)).bind fun b => .ok (.bl (if neg then !b else b))
    | _ => .bad
@[simp] theorem kInv_0 (neg : Bool) (x p : P) : kInv neg (some (.fz p)) (.ok x) = kInv2 neg (inP x p) := nd rfl
@[simp] theorem kInv_1 (neg : Bool) (x : P) (xs : List P) : kInv neg (some (.ow xs)) (.ok x) = kInv2 neg (inP x (.lst xs)) := nd rfl
@[simp] theorem w_1 (i : Nat) (ρ : Ev) : ev Γ G (.v i) ρ = getS ρ i := nd rfl
@[simp] theorem w_2 (p : P) (ρ : Ev) : ev Γ G (.c p) ρ = .ok p := nd rfl
@[simp] theorem w_3 (i : Nat) (ρ : Ev) : ev Γ G (.g i) ρ = .ok (G i) := nd rfl
@[simp] theorem w_4 (o : BOp) (a : IE) (b : IE) (ρ : Ev) : ev Γ G (.bin o a b) ρ = kBin2 Γ G o b ρ (ev Γ G a ρ) := nd rfl
@[simp] theorem w_5 (a : IE) (ρ : Ev) : ev Γ G (.neg a) ρ = kNeg (ev Γ G a ρ) := nd rfl
@[simp] theorem w_6 (a : IE) (ρ : Ev) : ev Γ G (.not a) ρ = kNot (ev Γ G a ρ) := nd rfl
@[simp] theorem w_7 (o2 : COp) (a : IE) (b : IE) (ρ : Ev) : ev Γ G (.cmp o2 a b) ρ = kCmp2 Γ G o2 b ρ (ev Γ G a ρ) := nd rfl
@[simp] theorem w_8 (o2 : COp) (o' : COp) (a : IE) (b : IE) (c : IE) (ρ : Ev) : ev Γ G (.chain o2 o' a b c) ρ = kCh2 Γ G o2 o' b c ρ (ev Γ G a ρ) := nd rfl
@[simp] theorem w_9 (es : IEs) (ρ : Ev) : ev Γ G (.band es) ρ = evAnd Γ G es ρ := nd rfl
@[simp] theorem w_10 (es : IEs) (ρ : Ev) : ev Γ G (.bor es) ρ = evOr Γ G es ρ := nd rfl
@[simp] theorem w_11 (e : IE) (ρ : Ev) : evAnd Γ G (.cons e .nil) ρ = kAsB (ev Γ G e ρ) := nd rfl
@[simp] theorem w_12 (e : IE) (e' : IE) (es : IEs) (ρ : Ev) : evAnd Γ G (.cons e (.cons e' es)) ρ = kAnd Γ G (.cons e' es) ρ (ev Γ G e ρ) := nd rfl
@[simp] theorem w_13 (e : IE) (ρ : Ev) : evOr Γ G (.cons e .nil) ρ = kAsB (ev Γ G e ρ) := nd rfl
@[simp] theorem w_14 (e : IE) (e' : IE) (es : IEs) (ρ : Ev) : evOr Γ G (.cons e (.cons e' es)) ρ = kOr Γ G (.cons e' es) ρ (ev Γ G e ρ) := nd rfl
@[simp] theorem w_15 (a : IE) (b : IE) (c : IE) (ρ : Ev) : ev Γ G (.ite c a b) ρ = kIf Γ G a b ρ (ev Γ G c ρ) := nd rfl
@[simp] theorem w_16 (es : IEs) (ρ : Ev) : ev Γ G (.tup es) ρ = kTup (evs Γ G es ρ) := nd rfl
@[simp] theorem w_17 (es : IEs) (ρ : Ev) : ev Γ G (.lst es) ρ = kLst (evs Γ G es ρ) := nd rfl
@[simp] theorem w_18 (ρ : Ev) : evs Γ G .nil ρ = .ok [] := nd rfl
@[simp] theorem w_19 (e : IE) (es : IEs) (ρ : Ev) : evs Γ G (.cons e es) ρ = kEvs Γ G es ρ (ev Γ G e ρ) := nd rfl
@[simp] theorem w_20 (a : IE) (b : IE) (ρ : Ev) : ev Γ G (.sub a b) ρ = kSub2 Γ G b ρ (ev Γ G a ρ) := nd rfl
@[simp] theorem w_21 (i : Nat) (a : IE) (ρ : Ev) : ev Γ G (.subv i a) ρ = kSubv Γ G a ρ ρ[i]? := nd rfl
@[simp] theorem w_22 (i : Nat) (ρ : Ev) : ev Γ G (.lenv i) ρ = kLen ρ[i]? := nd rfl
@[simp] theorem w_23 (i : Nat) (a : IE) (neg : Bool) (ρ : Ev) : ev Γ G (.inv neg a i) ρ = kInv neg ρ[i]? (ev Γ G a ρ) := nd rfl
@[simp] theorem w_24 (it : II) (ρ : Ev) : ev Γ G (.lrng it) ρ = kLst (evi Γ G it ρ) := nd rfl
@[simp] theorem w_25 (a : IE) (lo : IEo) (hi : IEo) (ρ : Ev) : ev Γ G (.slc a lo hi) ρ = kSlc2 Γ G lo hi ρ (ev Γ G a ρ) := nd rfl
@[simp] theorem w_26 (ρ : Ev) : evo Γ G .no ρ = .ok none := nd rfl
@[simp] theorem w_27 (e : IE) (ρ : Ev) : evo Γ G (.so e) ρ = kSo (ev Γ G e ρ) := nd rfl
@[simp] theorem w_28 (ρ : Ev) : evc Γ G .no ρ = .ok true := nd rfl
@[simp] theorem w_29 (e : IE) (ρ : Ev) : evc Γ G (.so e) ρ = kTst (ev Γ G e ρ) := nd rfl
@[simp] theorem w_30 (es : IEs) (f : Nat) (ρ : Ev) : ev Γ G (.call f es) ρ = kCall Γ f (evs Γ G es ρ) := nd rfl
@[simp] theorem w_31 (es : IEs) (bf : Blt) (ρ : Ev) : ev Γ G (.blt bf es) ρ = kBlt bf (evs Γ G es ρ) := nd rfl
@[simp] theorem w_32 (e : IE) (it : II) (t : Tg) (own : List Nat) (co : IEo) (ρ : Ev) : ev Γ G (.comp e t own it co) ρ = kComp Γ G e t own co ρ (evi Γ G it ρ) := nd rfl
@[simp] theorem w_33 (e : IE) (it : II) (it2 : II) (t : Tg) (t2 : Tg) (own : List Nat) (own2 : List Nat) (co : IEo) (ρ : Ev) : ev Γ G (.comp2 e t own it t2 own2 it2 co) ρ = kComp2 Γ G e t own t2 own2 it2 co ρ (evi Γ G it ρ) := nd rfl
@[simp] theorem w_34 (e : IE) (ρ : Ev) : evi Γ G (.seq e) ρ = kAsS (ev Γ G e ρ) := nd rfl
@[simp] theorem w_35 (a : IE) (ρ : Ev) : evi Γ G (.rng1 a) ρ = kR1 (ev Γ G a ρ) := nd rfl
@[simp] theorem w_36 (a : IE) (b : IE) (ρ : Ev) : evi Γ G (.rng2 a b) ρ = kR2 Γ G b ρ (ev Γ G a ρ) := nd rfl
@[simp] theorem w_37 (a : IE) (b : IE) (c : IE) (ρ : Ev) : evi Γ G (.rng3 a b c) ρ = kR3 Γ G b c ρ (ev Γ G a ρ) := nd rfl
@[simp] theorem w_38 (a : IE) (b : IE) (ρ : Ev) : evi Γ G (.zip a b) ρ = kZ Γ G b ρ (ev Γ G a ρ) := nd rfl
@[simp] theorem w_39 (a : IE) (ρ : Ev) : evi Γ G (.enum a) ρ = kEn (ev Γ G a ρ) := nd rfl
def kSeq (s : ISs) (r : Rs Out) : Rs Out := seqO r fun ρ => exs Γ G s ρ
@[simp] theorem kSeq_0 (s : ISs) (ρ : Ev) : kSeq Γ G s (.ok (.nx ρ)) = exs Γ G s ρ := nd rfl
@[simp] theorem kSeq_1 (s : ISs) (p : P) : kSeq Γ G s (.ok (.rt p)) = .ok (.rt p) := nd rfl
@[simp] theorem kSeq_e (s : ISs) (x : Exn) : kSeq Γ G s (.exc x) = .exc x := nd rfl
@[simp] theorem kSeq_b (s : ISs) : kSeq Γ G s .bad = .bad := nd rfl
def kWp (kill : List Nat) (r : Rs Out) : Rs Out := seqO r fun ρ => .ok (.nx (wipeS kill ρ))
@[simp] theorem kWp_0 (kill : List Nat) (ρ : Ev) : kWp kill (.ok (.nx ρ)) = .ok (.nx (wipeS kill ρ)) := nd rfl
@[simp] theorem kWp_1 (kill : List Nat) (p : P) : kWp kill (.ok (.rt p)) = .ok (.rt p) := nd rfl
@[simp] theorem kWp_e (kill : List Nat) (x : Exn) : kWp kill (.exc x) = .exc x := nd rfl
@[simp] theorem kWp_b (kill : List Nat) : kWp kill .bad = .bad := nd rfl
def kNx  (r : Rs Ev) : Rs Out := r.bind fun ρ => .ok (.nx ρ)
@[simp] theorem kNx_0  (ρ : Ev) : kNx  (.ok ρ) = .ok (.nx ρ) := nd rfl
@[simp] theorem kNx_e  (xe_ : Exn) : kNx  (.exc xe_) = .exc xe_ := nd rfl
@[simp] theorem kNx_b  : kNx  .bad = .bad := nd rfl
def kSet (i : Nat) (ρ : Ev) (r : Rs P) : Rs Out := r.bind fun x => when (decide (i < ρ.length)) (.ok (.nx (ρ.set i (.fz x))))
@[simp] theorem kSet_0 (i : Nat) (ρ : Ev) (x : P) : kSet i ρ (.ok x) = when (decide (i < ρ.length)) (.ok (.nx (ρ.set i (.fz x)))) := nd rfl
@[simp] theorem kSet_e (i : Nat) (ρ : Ev) (xe_ : Exn) : kSet i ρ (.exc xe_) = .exc xe_ := nd rfl
@[simp] theorem kSet_b (i : Nat) (ρ : Ev) : kSet i ρ .bad = .bad := nd rfl
def kNew2 (i : Nat) (ρ : Ev) (r : Rs Sl) : Rs Out := r.bind fun s => when (decide (i < ρ.length)) (.ok (.nx (ρ.set i s)))
@[simp] theorem kNew2_0 (i : Nat) (ρ : Ev) (s : Sl) : kNew2 i ρ (.ok s) = when (decide (i < ρ.length)) (.ok (.nx (ρ.set i s))) := nd rfl
@[simp] theorem kNew2_e (i : Nat) (ρ : Ev) (xe_ : Exn) : kNew2 i ρ (.exc xe_) = .exc xe_ := nd rfl
@[simp] theorem kNew2_b (i : Nat) (ρ : Ev) : kNew2 i ρ .bad = .bad := nd rfl
def kNew (i : Nat) (ρ : Ev) (r : Rs P) : Rs Out := r.bind fun x => (newS x).bind fun s => when (decide (i < ρ.length)) (.ok (.nx (ρ.set i s)))
@[simp] theorem kNew_0 (i : Nat) (ρ : Ev) (x : P) : kNew i ρ (.ok x) = kNew2 i ρ (newS x) := nd rfl
@[simp] theorem kNew_e (i : Nat) (ρ : Ev) (xe_ : Exn) : kNew i ρ (.exc xe_) = .exc xe_ := nd rfl
@[simp] theorem kNew_b (i : Nat) (ρ : Ev) : kNew i ρ .bad = .bad := nd rfl
def kBind (t : Tg) (ρ : Ev) (r : Rs P) : Rs Out := r.bind fun x => (bindT t x ρ).bind fun ρ' => .ok (.nx ρ')
@[simp] theorem kBind_0 (t : Tg) (ρ : Ev) (x : P) : kBind t ρ (.ok x) = kNx (bindT t x ρ) := nd rfl
@[simp] theorem kBind_e (t : Tg) (ρ : Ev) (xe_ : Exn) : kBind t ρ (.exc xe_) = .exc xe_ := nd rfl
@[simp] theorem kBind_b (t : Tg) (ρ : Ev) : kBind t ρ .bad = .bad := nd rfl
def kRet  (r : Rs P) : Rs Out := r.bind fun x => .ok (.rt x)
@[simp] theorem kRet_0  (x : P) : kRet  (.ok x) = .ok (.rt x) := nd rfl
@[simp] theorem kRet_e  (xe_ : Exn) : kRet  (.exc xe_) = .exc xe_ := nd rfl
@[simp] theorem kRet_b  : kRet  .bad = .bad := nd rfl
def kEff (ρ : Ev) (r : Rs P) : Rs Out := r.bind fun _ => .ok (.nx ρ)
@[simp] theorem kEff_0 (ρ : Ev) (x : P) : kEff ρ (.ok x) = .ok (.nx ρ) := nd rfl
@[simp] theorem kEff_e (ρ : Ev) (xe_ : Exn) : kEff ρ (.exc xe_) = .exc xe_ := nd rfl
@[simp] theorem kEff_b (ρ : Ev) : kEff ρ .bad = .bad := nd rfl
def kIte (a : ISs) (b : ISs) (ρ : Ev) (r : Rs P) : Rs Out := r.bind fun x => (asB x).bind fun k => if k then exs Γ G a ρ else exs Γ G b ρ
@[simp] theorem kIte_0 (a : ISs) (b : ISs) (ρ : Ev)  : kIte Γ G a b ρ (.ok (.bl true)) = exs Γ G a ρ := nd rfl
@[simp] theorem kIte_1 (a : ISs) (b : ISs) (ρ : Ev)  : kIte Γ G a b ρ (.ok (.bl false)) = exs Γ G b ρ := nd rfl
@[simp] theorem kIte_e (a : ISs) (b : ISs) (ρ : Ev) (xe_ : Exn) : kIte Γ G a b ρ (.exc xe_) = .exc xe_ := nd rfl
@[simp] theorem kIte_b (a : ISs) (b : ISs) (ρ : Ev) : kIte Γ G a b ρ .bad = .bad := nd rfl
def lSt (t : Tg) (kill : List Nat) (body : ISs) (x : P) (ρ : Ev) : Rs Out := seqO ((bindT t x ρ).bind fun ρ1 => exs Γ G body ρ1) fun ρ2 => .ok (.nx (wipeS kill ρ2))
def kBody (body : ISs) (r : Rs Ev) : Rs Out := r.bind fun ρ1 => exs Γ G body ρ1
@[simp] theorem kBody_0 (body : ISs) (ρ : Ev) : kBody Γ G body (.ok ρ) = exs Γ G body ρ := nd rfl
@[simp] theorem kBody_e (body : ISs) (xe_ : Exn) : kBody Γ G body (.exc xe_) = .exc xe_ := nd rfl
@[simp] theorem kBody_b (body : ISs) : kBody Γ G body .bad = .bad := nd rfl
@[simp] theorem lSt_x (t : Tg) (kill : List Nat) (body : ISs) (x : P) (ρ : Ev) : lSt Γ G t kill body x ρ = kWp kill (kBody Γ G body (bindT t x ρ)) := nd rfl
theorem seqO_id (r : Rs Out) : seqO r (fun ρ' => .ok (.nx ρ')) = r := by
  cases r with
  | ok o => cases o <;> rfl
  | exc e => rfl
  | bad => rfl
@[simp] theorem kSeq_nil (r : Rs Out) : kSeq Γ G .nil r = r := seqO_id r
def kFor (t : Tg) (kill : List Nat) (body : ISs) (ρ : Ev) (r : Rs (List P)) : Rs Out := r.bind fun xs => forP (lSt Γ G t kill body) xs (wipeS kill ρ)
@[simp] theorem kFor_0 (t : Tg) (kill : List Nat) (body : ISs) (ρ : Ev) (xs : List P) : kFor Γ G t kill body ρ (.ok xs) = forP (lSt Γ G t kill body) xs (wipeS kill ρ) := nd rfl
@[simp] theorem kFor_e (t : Tg) (kill : List Nat) (body : ISs) (ρ : Ev) (x : Exn) : kFor Γ G t kill body ρ (.exc x) = .exc x := nd rfl
@[simp] theorem kFor_b (t : Tg) (kill : List Nat) (body : ISs) (ρ : Ev) : kFor Γ G t kill body ρ .bad = .bad := nd rfl
@[simp] theorem w_for (t : Tg) (it : II) (kill : List Nat) (body : ISs) (ρ : Ev) : ex Γ G (.for_ t it kill body) ρ = kFor Γ G t kill body ρ (evi Γ G it ρ) := by
  show (evi Γ G it ρ).bind (fun xs => seqO (forP (lSt Γ G t kill body) xs (wipeS kill ρ)) fun ρ' => .ok (.nx ρ')) = _
  unfold kFor
  congr 1
  funext xs
  exact seqO_id _
def wC (c : IE) (ρ : Ev) : Rs Bool := (ev Γ G c ρ).bind asB
@[simp] theorem wC_x (c : IE) (ρ : Ev) : wC Γ G c ρ = kTst (ev Γ G c ρ) := nd rfl
def wB (kill : List Nat) (body : ISs) (ρ : Ev) : Rs Out := seqO (exs Γ G body ρ) fun ρ2 => .ok (.nx (wipeS kill ρ2))
@[simp] theorem wB_x (kill : List Nat) (body : ISs) (ρ : Ev) : wB Γ G kill body ρ = kWp kill (exs Γ G body ρ) := nd rfl
@[simp] theorem w_whl (c : IE) (kill : List Nat) (body : ISs) (ρ : Ev) : ex Γ G (.whl c kill body) ρ = whlP (wC Γ G c) (wB Γ G kill body) big (wipeS kill ρ) := nd rfl
def kApp (i : Nat) (ρ : Ev) (r : Rs P) : Rs Out := r.bind fun x => (appS ρ i x).bind fun ρ' => .ok (.nx ρ')
@[simp] theorem kApp_0 (i : Nat) (ρ : Ev) (x : P) : kApp i ρ (.ok x) = kNx (appS ρ i x) := nd rfl
@[simp] theorem kApp_e (i : Nat) (ρ : Ev) (xe_ : Exn) : kApp i ρ (.exc xe_) = .exc xe_ := nd rfl
@[simp] theorem kApp_b (i : Nat) (ρ : Ev) : kApp i ρ .bad = .bad := nd rfl
def kExt (i : Nat) (ρ : Ev) (r : Rs P) : Rs Out := r.bind fun x => (extS ρ i x).bind fun ρ' => .ok (.nx ρ')
@[simp] theorem kExt_0 (i : Nat) (ρ : Ev) (x : P) : kExt i ρ (.ok x) = kNx (extS ρ i x) := nd rfl
@[simp] theorem kExt_e (i : Nat) (ρ : Ev) (xe_ : Exn) : kExt i ρ (.exc xe_) = .exc xe_ := nd rfl
@[simp] theorem kExt_b (i : Nat) (ρ : Ev) : kExt i ρ .bad = .bad := nd rfl
def kPut2 (i : Nat) (ρ : Ev) (x : P) (r : Rs P) : Rs Out := r.bind fun y => (putS ρ i y x).bind fun ρ' => .ok (.nx ρ')
@[simp] theorem kPut2_0 (i : Nat) (ρ : Ev) (x : P) (y : P) : kPut2 i ρ x (.ok y) = kNx (putS ρ i y x) := nd rfl
@[simp] theorem kPut2_e (i : Nat) (ρ : Ev) (x : P) (xe_ : Exn) : kPut2 i ρ x (.exc xe_) = .exc xe_ := nd rfl
@[simp] theorem kPut2_b (i : Nat) (ρ : Ev) (x : P) : kPut2 i ρ x .bad = .bad := nd rfl
def kPut (i : Nat) (kk : IE) (ρ : Ev) (r : Rs P) : Rs Out := r.bind fun x => when (hdB ρ i) ((ev Γ G kk ρ).bind fun y => (putS ρ i y x).bind fun ρ' => .ok (.nx ρ'))
@[simp] theorem kPut_0 (i : Nat) (kk : IE) (ρ : Ev) (x : P) : kPut Γ G i kk ρ (.ok x) = when (hdB ρ i) (kPut2 i ρ x (ev Γ G kk ρ)) := nd rfl
@[simp] theorem kPut_e (i : Nat) (kk : IE) (ρ : Ev) (xe_ : Exn) : kPut Γ G i kk ρ (.exc xe_) = .exc xe_ := nd rfl
@[simp] theorem kPut_b (i : Nat) (kk : IE) (ρ : Ev) : kPut Γ G i kk ρ .bad = .bad := nd rfl
def kInc3 (i : Nat) (ρ : Ev) (r : Rs P) : Rs Out := r.bind fun z => .ok (.nx (ρ.set i (.fz z)))
@[simp] theorem kInc3_0 (i : Nat) (ρ : Ev) (z : P) : kInc3 i ρ (.ok z) = .ok (.nx (ρ.set i (.fz z))) := nd rfl
@[simp] theorem kInc3_e (i : Nat) (ρ : Ev) (xe_ : Exn) : kInc3 i ρ (.exc xe_) = .exc xe_ := nd rfl
@[simp] theorem kInc3_b (i : Nat) (ρ : Ev) : kInc3 i ρ .bad = .bad := nd rfl
def kInc2 (i : Nat) (ρ : Ev) (y : P) (r : Rs P) : Rs Out := r.bind fun x => (incP y x).bind fun z => .ok (.nx (ρ.set i (.fz z)))
@[simp] theorem kInc2_0 (i : Nat) (ρ : Ev) (y : P) (x : P) : kInc2 i ρ y (.ok x) = kInc3 i ρ (incP y x) := nd rfl
@[simp] theorem kInc2_e (i : Nat) (ρ : Ev) (y : P) (xe_ : Exn) : kInc2 i ρ y (.exc xe_) = .exc xe_ := nd rfl
@[simp] theorem kInc2_b (i : Nat) (ρ : Ev) (y : P) : kInc2 i ρ y .bad = .bad := nd rfl
def kInc (i : Nat) (e : IE) (ρ : Ev) (r : Rs P) : Rs Out := r.bind fun y => (ev Γ G e ρ).bind fun x => (incP y x).bind fun z => .ok (.nx (ρ.set i (.fz z)))
@[simp] theorem kInc_0 (i : Nat) (e : IE) (ρ : Ev) (y : P) : kInc Γ G i e ρ (.ok y) = kInc2 i ρ y (ev Γ G e ρ) := nd rfl
@[simp] theorem kInc_e (i : Nat) (e : IE) (ρ : Ev) (xe_ : Exn) : kInc Γ G i e ρ (.exc xe_) = .exc xe_ := nd rfl
@[simp] theorem kInc_b (i : Nat) (e : IE) (ρ : Ev) : kInc Γ G i e ρ .bad = .bad := nd rfl
def kRaise (c : Nat) (r : Rs (List P)) : Rs Out := r.bind fun xs => .exc ⟨c, xs⟩
@[simp] theorem kRaise_0 (c : Nat) (xs : List P) : kRaise c (.ok xs) = .exc ⟨c, xs⟩ := nd rfl
@[simp] theorem kRaise_e (c : Nat) (xe_ : Exn) : kRaise c (.exc xe_) = .exc xe_ := nd rfl
@[simp] theorem kRaise_b (c : Nat) : kRaise c .bad = .bad := nd rfl
def kTry (hs : IHs) (r : Rs Out) : Rs Out := match r with | .exc x => catch_ x hs | r => r
@[simp] theorem kTry_0 (hs : IHs) (a : Out) : kTry hs (.ok a) = .ok a := nd rfl
@[simp] theorem kTry_e (hs : IHs) (x : Exn) : kTry hs (.exc x) = catch_ x hs := nd rfl
@[simp] theorem kTry_b (hs : IHs) : kTry hs .bad = .bad := nd rfl
@[simp] theorem w_40 (ρ : Ev) : exs Γ G .nil ρ = .ok (.nx ρ) := nd rfl
@[simp] theorem w_41 (s : IS) (ss : ISs) (ρ : Ev) : exs Γ G (.cons s ss) ρ = kSeq Γ G ss (ex Γ G s ρ) := nd rfl
@[simp] theorem w_42 (i : Nat) (e : IE) (ρ : Ev) : ex Γ G (.set i e) ρ = kSet i ρ (ev Γ G e ρ) := nd rfl
@[simp] theorem w_43 (i : Nat) (e : IE) (ρ : Ev) : ex Γ G (.new i e) ρ = kNew i ρ (ev Γ G e ρ) := nd rfl
@[simp] theorem w_44 (e : IE) (t : Tg) (ρ : Ev) : ex Γ G (.bind t e) ρ = kBind t ρ (ev Γ G e ρ) := nd rfl
@[simp] theorem w_45 (e : IE) (ρ : Ev) : ex Γ G (.ret e) ρ = kRet (ev Γ G e ρ) := nd rfl
@[simp] theorem w_46 (e : IE) (ρ : Ev) : ex Γ G (.eff e) ρ = kEff ρ (ev Γ G e ρ) := nd rfl
@[simp] theorem w_47 (c : IE) (ss : ISs) (ss2 : ISs) (ρ : Ev) : ex Γ G (.ite c ss ss2) ρ = kIte Γ G ss ss2 ρ (ev Γ G c ρ) := nd rfl
@[simp] theorem w_48 (i : Nat) (e : IE) (ρ : Ev) : ex Γ G (.app i e) ρ = when (owB ρ i) (kApp i ρ (ev Γ G e ρ)) := nd rfl
@[simp] theorem w_49 (i : Nat) (e : IE) (ρ : Ev) : ex Γ G (.ext i e) ρ = when (owB ρ i) (kExt i ρ (ev Γ G e ρ)) := nd rfl
@[simp] theorem w_50 (i : Nat) (c : IE) (e : IE) (ρ : Ev) : ex Γ G (.put i c e) ρ = kPut Γ G i c ρ (ev Γ G e ρ) := nd rfl
@[simp] theorem w_51 (i : Nat) (e : IE) (ρ : Ev) : ex Γ G (.inc i e) ρ = kInc Γ G i e ρ (getS ρ i) := nd rfl
@[simp] theorem w_52 (i : Nat) (es : IEs) (ρ : Ev) : ex Γ G (.raise i es) ρ = kRaise i (evs Γ G es ρ) := nd rfl
@[simp] theorem w_53 (i : Nat) (ρ : Ev) : ex Γ G (.frz i) ρ = .ok (.nx (frzS ρ i)) := nd rfl
@[simp] theorem w_54 (ss : ISs) (hs : IHs) (ρ : Ev) : ex Γ G (.tryE ss hs) ρ = kTry hs (exs Γ G ss ρ) := nd rfl
@[simp] theorem w_55 (ρ : Ev) : ex Γ G .pass ρ = .ok (.nx ρ) := nd rfl
def kRun  (r : Rs Out) : Rs P := r.bind fun a => .ok (fin a)
@[simp] theorem kRun_0  (a : Out) : kRun  (.ok a) = .ok (fin a) := nd rfl
@[simp] theorem kRun_e  (xe_ : Exn) : kRun  (.exc xe_) = .exc xe_ := nd rfl
@[simp] theorem kRun_b  : kRun  .bad = .bad := nd rfl
theorem w_run (f : Fn) (xs : List P) : run Γ G f xs = when (decide (xs.length = f.ps) && decide (f.ps ≤ f.n)) (kRun (exs Γ G f.body (start f xs))) := rfl
end
@[simp] theorem getS_0 (p : P) (ρ : Ev) : getS (.fz p :: ρ) 0 = .ok p := nd rfl
@[simp] theorem getS_s (s : Sl) (ρ : Ev) (i : Nat) : getS (s :: ρ) (i + 1) = getS ρ i := nd rfl
@[simp] theorem bindT_v (i : Nat) (p : P) (ρ : Ev) : bindT (.v i) p ρ = when (decide (i < ρ.length)) (.ok (ρ.set i (.fz p))) := nd rfl
def kT2 (b : Tg) (y : P) (r : Rs Ev) : Rs Ev := r.bind fun ρ => bindT b y ρ
@[simp] theorem kT2_0 (b : Tg) (y : P) (ρ : Ev) : kT2 b y (.ok ρ) = bindT b y ρ := nd rfl
@[simp] theorem bindT_2 (a b : Tg) (x y : P) (ρ : Ev) : bindT (.pr a b) (.tup [x, y]) ρ = kT2 b y (bindT a x ρ) := nd rfl
@[simp] theorem bindT_3 (a b c : Tg) (x y z : P) (ρ : Ev) : bindT (.tr a b c) (.tup [x, y, z]) ρ = kT2 c z (kT2 b y (bindT a x ρ)) := by
  show (bindT a x ρ).bind (fun ρ => (bindT b y ρ).bind fun ρ => bindT c z ρ) = _
  cases bindT a x ρ <;> rfl
@[simp] theorem bindT_4 (a b c d : Tg) (x y z u : P) (ρ : Ev) : bindT (.qd a b c d) (.tup [x, y, z, u]) ρ = kT2 d u (kT2 c z (kT2 b y (bindT a x ρ))) := by
  show (bindT a x ρ).bind (fun ρ => (bindT b y ρ).bind fun ρ => (bindT c z ρ).bind fun ρ => bindT d u ρ) = _
  cases bindT a x ρ with
  | ok ρ => show (bindT b y ρ).bind (fun ρ => (bindT c z ρ).bind fun ρ => bindT d u ρ) = kT2 d u (kT2 c z (bindT b y ρ)); cases bindT b y ρ <;> rfl
  | exc e => rfl
  | bad => rfl
@[simp] theorem wipeS_nil (ρ : Ev) : wipeS [] ρ = ρ := nd rfl
@[simp] theorem wipeS_cons (k : Nat) (ks : List Nat) (ρ : Ev) : wipeS (k :: ks) ρ = (wipeS ks ρ).set k .un := nd rfl
@[simp] theorem fin_nx (ρ : Ev) : fin (.nx ρ) = .non := nd rfl
@[simp] theorem fin_rt (p : P) : fin (.rt p) = p := nd rfl
@[simp] theorem owB_0 (xs : List P) (ρ : Ev) : owB (.ow xs :: ρ) 0 = true := nd rfl
@[simp] theorem owB_s (s : Sl) (ρ : Ev) (i : Nat) : owB (s :: ρ) (i + 1) = owB ρ i := nd rfl
@[simp] theorem hdB_0 (xs : List P) (ρ : Ev) : hdB (.ow xs :: ρ) 0 = true := nd rfl
@[simp] theorem hdB_1 (xs : List (List Int × P)) (ρ : Ev) : hdB (.od xs :: ρ) 0 = true := nd rfl
@[simp] theorem hdB_s (s : Sl) (ρ : Ev) (i : Nat) : hdB (s :: ρ) (i + 1) = hdB ρ i := nd rfl
@[simp] theorem asS_t (xs : List P) : asS (.tup xs) = .ok xs := nd rfl
@[simp] theorem asS_l (xs : List P) : asS (.lst xs) = .ok xs := nd rfl
@[simp] theorem newS_l (xs : List P) : newS (.lst xs) = .ok (.ow xs) := nd rfl
@[simp] theorem newS_d (xs : List (List Int × P)) : newS (.dic xs) = .ok (.od xs) := nd rfl
@[simp] theorem cmp_eqI (i j : Int) : cmpP .eq (.int i) (.int j) = .ok (decide (i = j)) := nd rfl
@[simp] theorem cmp_neI (i j : Int) : cmpP .ne (.int i) (.int j) = .ok (!decide (i = j)) := nd rfl
@[simp] theorem cmp_lt (i j : Int) : cmpP .lt (.int i) (.int j) = .ok (decide (i < j)) := nd rfl
@[simp] theorem cmp_le (i j : Int) : cmpP .le (.int i) (.int j) = .ok (decide (i ≤ j)) := nd rfl
@[simp] theorem cmp_gt (i j : Int) : cmpP .gt (.int i) (.int j) = .ok (decide (j < i)) := nd rfl
@[simp] theorem cmp_ge (i j : Int) : cmpP .ge (.int i) (.int j) = .ok (decide (j ≤ i)) := nd rfl
@[simp] theorem bin_addI (i j : Int) : binP .add (.int i) (.int j) = .ok (.int (i + j)) := nd rfl
@[simp] theorem bin_subI (i j : Int) : binP .sub (.int i) (.int j) = .ok (.int (i - j)) := nd rfl
@[simp] theorem bin_mulI (i j : Int) : binP .mul (.int i) (.int j) = when (mulOk i j) (.ok (.int (i * j))) := nd rfl
@[simp] theorem bin_modI (i j : Int) : binP .mod (.int i) (.int j) = when (decide (0 < j)) (.ok (.int (i % j))) := nd rfl
@[simp] theorem bin_divI (i j : Int) : binP .fdiv (.int i) (.int j) = when (decide (0 < j) && decide (j.natAbs.log2 < 9000)) (.ok (.int (i / j))) := nd rfl
@[simp] theorem bin_addT (xs ys : List P) : binP .add (.tup xs) (.tup ys) = when (decide (xs.length + ys.length ≤ big)) (.ok (.tup (xs ++ ys))) := nd rfl
@[simp] theorem bin_addL (xs ys : List P) : binP .add (.lst xs) (.lst ys) = when (decide (xs.length + ys.length ≤ big)) (.ok (.lst (xs ++ ys))) := nd rfl
@[simp] theorem sub_t (xs : List P) (i : Int) : subP (.tup xs) (.int i) = atL xs i := nd rfl
@[simp] theorem sub_l (xs : List P) (i : Int) : subP (.lst xs) (.int i) = atL xs i := nd rfl
@[simp] theorem sub_s (xs : List P) (i : Int) : subP (.scr xs) (.int i) = atL xs i := nd rfl
@[simp] theorem len_t (xs : List P) : bltP .len [.tup xs] = .ok (.int xs.length) := nd rfl
@[simp] theorem len_l (xs : List P) : bltP .len [.lst xs] = .ok (.int xs.length) := nd rfl
@[simp] theorem len_s (xs : List P) : bltP .len [.scr xs] = .ok (.int xs.length) := nd rfl
@[simp] theorem tuple_t (xs : List P) : bltP .tuple [.tup xs] = .ok (.tup xs) := nd rfl
@[simp] theorem tuple_l (xs : List P) : bltP .tuple [.lst xs] = .ok (.tup xs) := nd rfl
@[simp] theorem list_t (xs : List P) : bltP .list [.tup xs] = .ok (.lst xs) := nd rfl
@[simp] theorem list_l (xs : List P) : bltP .list [.lst xs] = .ok (.lst xs) := nd rfl
@[simp] theorem int_i (i : Int) : bltP .int [.int i] = .ok (.int i) := nd rfl
@[simp] theorem int_b (b : Bool) : bltP .int [.bl b] = .ok (.int (if b then 1 else 0)) := nd rfl
@[simp] theorem max2_i (i j : Int) : bltP .max2 [.int i, .int j] = .ok (.int (max i j)) := nd rfl
@[simp] theorem min2_i (i j : Int) : bltP .min2 [.int i, .int j] = .ok (.int (min i j)) := nd rfl
@[simp] theorem at_0 (x : P) (xs : List P) : atL (x :: xs) 0 = .ok x := by
  unfold atL ixN
  rw [if_pos (Int.le_refl 0), if_pos (by simp only [List.length_cons]; omega)]
  rfl
theorem at_1 (x y : P) (xs : List P) : atL (x :: y :: xs) 1 = .ok y := by
  unfold atL ixN
  rw [if_pos (by omega), if_pos (by simp only [List.length_cons]; omega)]
  rfl
theorem at_2 (x y z : P) (xs : List P) : atL (x :: y :: z :: xs) 2 = .ok z := by
  unfold atL ixN
  rw [if_pos (by omega), if_pos (by simp only [List.length_cons]; omega)]
  rfl
theorem at_3 (x y z u : P) (xs : List P) : atL (x :: y :: z :: u :: xs) 3 = .ok u := by
  unfold atL ixN
  rw [if_pos (by omega), if_pos (by simp only [List.length_cons]; omega)]
  rfl
@[simp] theorem le_big {n : Nat} (h : n ≤ 16777216) : (n ≤ big) = True := eq_true h
@[simp] theorem lt_big {n : Nat} (h : n < 16777216) : (n < big) = True := eq_true h
@[simp] theorem bin_pow (i j : Int) : binP .pow (.int i) (.int j) = when (decide (i = 10) && decide (0 ≤ j) && decide (j ≤ 60)) (.ok (.int (i ^ j.toNat))) := nd rfl
@[simp] theorem isTuple_t (xs : List P) : bltP .isTuple [.tup xs] = .ok (.bl true) := nd rfl
@[simp] theorem isInt_i (i : Int) : bltP .isInt [.int i] = .ok (.bl true) := nd rfl
@[simp] theorem isBool_i (i : Int) : bltP .isBool [.int i] = .ok (.bl false) := nd rfl
end PL
end

section
set_option Elab.async false
set_option linter.all false
set_option maxRecDepth 100000
set_option maxHeartbeats 2000000
/-! K50P6: the law's own tables; what is the same as itself. -/
namespace K50
open PL
open KM (Vec Row addV subV leV members placeV prodB ext1 nonneg offF TT)
/-- a dict by vectors -/
def dicP (F : Vec → Int) (s : List Vec) : List (List Int × P) := s.map fun w => (w, P.int (F w))
theorem dget_map (F : Vec → Int) : ∀ (s : List Vec) (w : Vec), w ∈ s → dget (dicP F s) w = .ok (.int (F w))
  | [], _, h => by cases h
  | a :: s, w, h => by
    unfold dget dicP
    rw [List.map_cons]
    by_cases e : a = w
    · subst e
      simp
    · have hw : w ∈ s := by
        rcases List.mem_cons.mp h with h | h
        · exact absurd h.symm e
        · exact h
      have := dget_map F s w hw
      unfold dget dicP at this
      rw [List.find?_cons_of_neg (by simpa using e)]
      exact this
theorem dput_new (F : Vec → Int) (s : List Vec) (v : Vec) (x : P) (h : v ∉ s) : dput (dicP F s) v x = dicP F s ++ [(v, x)] := by
  unfold dput
  rw [if_neg]
  intro q
  obtain ⟨y, hy, e⟩ := List.any_eq_true.mp q
  obtain ⟨w, hw, rfl⟩ := List.mem_map.mp hy
  have : w = v := of_decide_eq_true e
  exact h (this ▸ hw)
theorem dic_snoc (F : Vec → Int) (s : List Vec) (v : Vec) : dicP F (s ++ [v]) = dicP F s ++ [(v, .int (F v))] := by simp [dicP]
theorem dic_len (F : Vec → Int) (s : List Vec) : (dicP F s).length = s.length := by simp [dicP]
theorem fresh_at {box : Vec} (hn : nonneg box) {s rem : List Vec} {v : Vec} (h : s ++ v :: rem = members box) : v ∉ s := by
  intro hv
  obtain ⟨_, h2, _⟩ := pre_at hn h
  obtain ⟨i, hi⟩ := List.getElem?_of_mem hv
  have hlt := (List.getElem?_eq_some_iff.mp hi).1
  have e : (members box)[i]? = some v := by rw [← h, List.getElem?_append_left hlt]; exact hi
  have := KM.place_of box hn i v e
  omega
theorem older_in {k : Nat} {box : Vec} (hb : OkBox k box) {s rem : List Vec} {v w : Vec} (h : s ++ v :: rem = members box) (hw : KM.inB w box) (hle : leV w v = true) (hne : w.sum < v.sum) : w ∈ s := by
  obtain ⟨_, h2, h3⟩ := pre_at hb.nn h
  have hlt := place_lt hb h3 hw hle hne
  obtain ⟨p0, p1⟩ := KM.members_at box hb.nn w hw
  rw [← h, List.getElem?_append_left (by omega)] at p1
  exact List.mem_of_getElem? p1
def mostP (forms : List Row) (box : Vec) : P := .dic (dicP (TT forms) (members box))
theorem e_lmost (n : Nat) (forms : List Row) (box : Vec) (k : Nat) (hb : OkBox k box) (ok : KM.okForms k forms) (hp : ¬ 2000 < prodB box) : callF D G (n + 2) 34 [rowsP forms, vP box] = .ok (mostP forms box) := by
  rw [c__law_most]
  have hl1000 : box.length ≤ 1000 := by have := hb.len; have := hb.k4; omega
  have hml := members_le hb.nn hp
  have m31 := e_lfits n
  have m30 := e_lminus n
  have m33 := e_lmembers n box hb.sm hl1000 hp
  generalize callF D G (n + 1) = Γ at m31 m30 m33 ⊢
  simp [w_run, i__law_most, PL.start, m33]
  generalize hst : lSt _ _ _ _ _ = step
  have e := (forP_foldR step vP (fun s : List Vec => ([.fz (rowsP forms), .fz (vP box), .od (dicP (TT forms) s), .un, .un, .un] : Ev)) (fun s v => s ++ [v]) (fun rem s => s ++ rem = members box) (members box) [] rfl (fun v rem s hi => by
    refine ⟨?_, by rw [List.append_assoc]; exact hi⟩
    obtain ⟨h1, h2, h3⟩ := pre_at hb.nn hi
    have hvk : KM.okV k v := ⟨h3.1.trans hb.len, h3.2.1⟩
    rw [← hst]
    simp [rowsP]
    generalize hst2 : lSt _ _ _ _ _ = step2
    have e2 := (forP_fold step2 rowP (fun b : Int => [.fz (.tup (forms.map rowP)), .fz (vP box), .od (dicP (TT forms) s), .fz (vP v), .fz (.int b), .un]) (fun b r => if leV r.1 v = true then max b (r.2 + TT forms (subV v r.1)) else b) (fun _ => True) forms 0 trivial (fun r hr b _ => ⟨by
      rw [← hst2]
      obtain ⟨l, nn, sp, _⟩ := ok r hr
      have hvl : v.length = r.1.length := by rw [hvk.1, l]
      have hk4 := hb.k4
      have a1 : subP (rowP r) (.int 0) = .ok (vP r.1) := rfl
      have a2 : subP (rowP r) (.int 1) = .ok (.int r.2) := rfl
      have ef := m31 r.1 v (by omega) hvl.symm
      have em := m30 v r.1 (by omega) hvl
      by_cases c : leV r.1 v = true
      · obtain ⟨q1, q2, q3⟩ := sub_in hb h3 l nn c
        have hmem := older_in hb hi q1 q2 (by omega)
        have hd := dget_map (TT forms) s _ hmem
        have hs : subP (.dic (dicP (TT forms) s)) (vP (subV v r.1)) = .ok (.int (TT forms (subV v r.1))) := by
          show (match intsL ((subV v r.1).map P.int) with | some k => dget (dicP (TT forms) s) k | none => .bad) = _
          rw [intsL_map]
          exact hd
        simp [a1, a2, ef, em, c, hs]
      · (simp [a1, a2, ef, c]), trivial⟩)).1
    rw [e2]
    have hlen : s.length < big := by
      have : s.length < (members box).length := by rw [← hi]; simp
      show s.length < 16777216
      omega
    have eT : forms.foldl (fun b r => if leV r.1 v = true then max b (r.2 + TT forms (subV v r.1)) else b) 0 = TT forms v := (KM.TT_eq ok hvk).symm
    have hput : ∀ r : Ev, putS (Sl.fz (.tup (forms.map rowP)) :: Sl.fz (vP box) :: Sl.od (dicP (TT forms) s) :: r) 2 (vP v) (.int (TT forms v)) = .ok (Sl.fz (.tup (forms.map rowP)) :: Sl.fz (vP box) :: Sl.od (dicP (TT forms) (s ++ [v])) :: r) := fun r => by
      have hd : decide ((dicP (TT forms) s).length < big) = true := by rw [dic_len]; exact decide_eq_true hlen
      show (match intsL (v.map P.int) with | some q => Rs.when (decide ((dicP (TT forms) s).length < big)) (.ok (List.set (Sl.fz (.tup (forms.map rowP)) :: Sl.fz (vP box) :: Sl.od (dicP (TT forms) s) :: r) 2 (Sl.od (dput (dicP (TT forms) s) q (.int (TT forms v)))))) | none => .bad) = _
      rw [intsL_map]
      simp only [hd, Rs.when_true, dput_new (TT forms) s v _ (fresh_at hb.nn hi), dic_snoc]
      rfl
    simp [eT, hput])).1
  have ef : (members box).foldl (fun s v => s ++ [v]) [] = members box := by
    have key : ∀ (l s : List Vec), l.foldl (fun s v => s ++ [v]) s = s ++ l := fun l => by
      induction l with
      | nil => intro s; simp
      | cons a l ih => intro s; rw [List.foldl_cons, ih]; simp
    rw [key]; rfl
  rw [ef] at e
  have e0 : dicP (TT forms) [] = [] := rfl
  rw [e0] at e
  rw [e]
  simp [frzS, freezeS, mostP]
theorem e_loff (n : Nat) (hp : P) (heads : List Row) (basket box : Vec) (F : Vec → Int) (k : Nat) (hb : OkBox k box) (hh : isRows hp heads) (ok : KM.okHeads k heads) (hv : KM.inB basket box) :
    callF D G (n + 2) 35 [hp, .dic (dicP F (members box)), vP basket] = .ok (.int (offF heads F basket)) := by
  rw [c__law_off]
  have hh' : asS hp = .ok (heads.map rowP) := hh
  have m31 := e_lfits n
  have m30 := e_lminus n
  generalize callF D G (n + 1) = Γ at m31 m30 ⊢
  simp [w_run, i__law_off, PL.start, hh']
  generalize hst2 : lSt _ _ _ _ _ = step2
  have e2 := (forP_fold step2 rowP (fun b : Int => [.fz hp, .fz (.dic (dicP F (members box))), .fz (vP basket), .fz (.int b), .un]) (fun b r => if leV r.1 basket = true then max b (r.2 + F (subV basket r.1)) else b) (fun _ => True) heads 0 trivial (fun r hr b _ => ⟨by
    rw [← hst2]
    obtain ⟨l, nn, _⟩ := ok r hr
    have hvl : basket.length = r.1.length := by rw [hv.1, hb.len, l]
    have hk4 := hb.k4
    have a1 : subP (rowP r) (.int 0) = .ok (vP r.1) := rfl
    have a2 : subP (rowP r) (.int 1) = .ok (.int r.2) := rfl
    have ef := m31 r.1 basket (by omega) hvl.symm
    have em := m30 basket r.1 (by omega) hvl
    by_cases c : leV r.1 basket = true
    · obtain ⟨q1, q2, q3⟩ := sub_in hb hv l nn c
      obtain ⟨p0, p1⟩ := KM.members_at box hb.nn _ q1
      have hs : subP (.dic (dicP F (members box))) (vP (subV basket r.1)) = .ok (.int (F (subV basket r.1))) := by
        show (match intsL ((subV basket r.1).map P.int) with | some k => dget (dicP F (members box)) k | none => .bad) = _
        rw [intsL_map]
        exact dget_map F _ _ (List.mem_of_getElem? p1)
      simp [a1, a2, ef, em, c, hs]
    · (simp [a1, a2, ef, c]), trivial⟩)).1
  rw [e2]
  simp
  rfl
/-- one unit of one good -/
def unitV (size : Nat) (g : Int) : Vec := (List.range size).map fun (k : Nat) => if (k : Int) = g then 1 else 0
theorem e_lunit (n : Nat) (size : Nat) (hs : size ≤ 1000) (g : Int) : callF D G (n + 1) 28 [.int size, .int g] = .ok (vP (unitV size g)) := by
  rw [c__law_unit]
  obtain ⟨j, hj⟩ : ∃ j : Int, (size : Int) = j := ⟨_, rfl⟩
  have hjn : j.toNat = size := by omega
  have hk : rngOk j = true := rng_ok (by omega) (by omega)
  have hk2 : j ≤ 16777216 := by omega
  have hc := compP_map (cSt (callF D G n) G (.blt .int (.cons (.cmp .eq (.v 2) (.v 1)) .nil)) (.v 2) [2] .no [.fz (.int j), .fz (.int g), .un]) (fun (i : Nat) => P.int (i : Int)) (fun i => .int (if (i : Int) = g then 1 else 0)) (List.range size) (fun i hi => by
    have h1 : cmpP .eq (.int (i : Int)) (.int g) = .ok (decide ((i : Int) = g)) := rfl
    by_cases c : (i : Int) = g
    · rw [decide_eq_true c] at h1
      simp only [if_pos c]
      simp [h1]
    · rw [decide_eq_false c] at h1
      simp only [if_neg c]
      simp [h1])
  rw [hj]
  simp [w_run, i__law_unit, PL.start, hjn, hk, hk2, rngL_one]
  rw [hc]
  simp [vP, unitV, List.map_map, Function.comp_def]
/-! the same -/
def plain : Nat → P → Bool
  | _, .non => true
  | _, .bl _ => true
  | _, .int _ => true
  | _, .str _ => true
  | d + 1, .tup xs => decide (xs.length ≤ 1000) && xs.all (plain d)
  | _, _ => false
theorem same_leaf (Γ : Nat → List P → Rs P) (p : P) (h : plain 0 p = true) : run Γ G i__law_same [p, p] = .ok (.bl true) := by
  rw [w_run]
  cases p with
  | non => rfl
  | bl b => cases b <;> rfl
  | int i =>
    have e1 : cmpP .isn (.int i) .non = .ok false := rfl
    have e2 : bltP .isStr [.int i] = .ok (.bl false) := rfl
    have e3 : bltP .isTuple [.int i] = .ok (.bl false) := rfl
    simp [i__law_same, PL.start, e1, e2, e3]
  | str x =>
    have e1 : cmpP .isn (.str x) .non = .ok false := rfl
    have e2 : cmpP .eq (.str x) (.str x) = .ok true := by simp [cmpP, eqOk, eqv]
    have e3 : bltP .isStr [.str x] = .ok (.bl true) := rfl
    have e4 : bltP .isBool [.str x] = .ok (.bl false) := rfl
    simp [i__law_same, PL.start, e1, e2, e3, e4]
  | tup xs => cases h
  | lst xs => cases h
  | dic xs => cases h
  | scr xs => cases h
theorem same_tup (Γ : Nat → List P → Rs P) (xs : List P) (hl : xs.length ≤ 1000) (ih : ∀ x ∈ xs, Γ 27 [x, x] = .ok (.bl true)) : run Γ G i__law_same [.tup xs, .tup xs] = .ok (.bl true) := by
  have hk : rngOk (xs.length : Int) = true := rng_ok (by omega) (by omega)
  have hk2 : (xs.length : Int) ≤ 16777216 := by omega
  have hn : cmpP .isn (.tup xs) .non = .ok false := rfl
  have e2 : bltP .isStr [.tup xs] = .ok (.bl false) := rfl
  have e3 : bltP .isBool [.tup xs] = .ok (.bl false) := rfl
  rw [w_run]
  simp [i__law_same, PL.start, hn, e2, e3, hk, hk2, rngL_one]
  generalize hst : lSt _ _ _ _ _ = step
  have e := (forP_fold step (fun (i : Nat) => P.int (i : Int)) (fun _ : Unit => [.fz (.tup xs), .fz (.tup xs), .un]) (fun s _ => s) (fun _ => True) (List.range xs.length) () trivial (fun i hi _ _ => ⟨by
    have hi := List.mem_range.mp hi
    have h1 : xs[i]? = some xs[i] := List.getElem?_eq_getElem hi
    have h2 := at_natP h1
    have h3 := ih xs[i] (List.getElem_mem hi)
    rw [← hst]
    simp [h2, h3], trivial⟩)).1
  rw [e]
  simp
theorem e_lsame : ∀ (d : Nat) (p : P), plain d p = true → ∀ n, callF D G (n + d + 1) 27 [p, p] = .ok (.bl true) := by
  intro d
  induction d with
  | zero =>
    intro p h n
    rw [c__law_same]
    exact same_leaf _ p h
  | succ d ih =>
    intro p h n
    have ee : n + (d + 1) + 1 = (n + d + 1) + 1 := by omega
    rw [ee, c__law_same]
    cases p with
    | non => exact same_leaf _ _ rfl
    | bl b => exact same_leaf _ _ rfl
    | int i => exact same_leaf _ _ rfl
    | str x => exact same_leaf _ _ rfl
    | tup xs =>
      have h' : (decide (xs.length ≤ 1000) && xs.all (plain d)) = true := h
      rw [Bool.and_eq_true, decide_eq_true_iff, List.all_eq_true] at h'
      exact same_tup _ xs h'.1 fun x hx => ih x (h'.2 x hx) n
    | lst xs => cases h
    | dic xs => cases h
    | scr xs => cases h
end K50
end

section
set_option Elab.async false
set_option linter.all false
set_option maxRecDepth 100000
set_option maxHeartbeats 2000000
/-! K50P7: what the law draws from its numbers. -/
namespace K50
open PL
open KM (Vec Row addV subV leV members placeV prodB ext1 nonneg offF TT)
/-- a loop that only goes on, by an invariant -/
theorem forP_invM {α σ : Type} (step : P → Ev → Rs Out) (inj : α → P) (E : σ → Ev) (I : List α → σ → Prop) : ∀ (l : List α) (s : σ), I l s → (∀ a l s, I (a :: l) s → ∃ s', step (inj a) (E s) = .ok (.nx (E s')) ∧ I l s') → ∃ s', forP step (l.map inj) (E s) = .ok (.nx (E s')) ∧ I [] s'
  | [], s, hi, _ => ⟨s, rfl, hi⟩
  | a :: l, s, hi, h => by
    obtain ⟨s1, h1, h2⟩ := h a l s hi
    obtain ⟨s2, h3, h4⟩ := forP_invM step inj E I l s1 h2 h
    refine ⟨s2, ?_, h4⟩
    show seqO (step (inj a) (E s)) (fun ρ' => forP step (l.map inj) ρ') = _
    rw [h1]
    exact h3
def in1000 (l : List Int) : Prop := ∀ x ∈ l, 0 ≤ x ∧ x < 1000
theorem in1000_snoc {l : List Int} {x : Int} (h : in1000 l) (h0 : 0 ≤ x) (h1 : x < 1000) : in1000 (l ++ [x]) := fun y hy => by
  rcases List.mem_append.mp hy with hy | hy
  · exact h y hy
  · have : y = x := by simpa using hy
    subst this
    exact ⟨h0, h1⟩
theorem cmpI_eq (i j : Int) : cmpP .eq (.int i) (.int j) = .ok (decide (i = j)) := rfl
theorem cmpI_ne (i j : Int) : cmpP .ne (.int i) (.int j) = .ok (!decide (i = j)) := rfl
theorem sub_lst (xs : List P) (i : Int) : subP (.lst xs) (.int i) = atL xs i := rfl
theorem sub_tup (xs : List P) (i : Int) : subP (.tup xs) (.int i) = atL xs i := rfl
theorem sub_scr (xs : List P) (i : Int) : subP (.scr xs) (.int i) = atL xs i := rfl
theorem e_lnumbers (n : Nat) (s : List Int) (k many : Nat) (hk : k ≤ 1000) (hm : many ≤ 1000) : ∃ ns : List Int, ns.length = many ∧ in1000 ns ∧ callF D G (n + 1) 26 [.scr (s.map .int), .int k, .int many] = .ok (.lst (ns.map .int)) := by
  rw [c__law_numbers]
  have hmk : rngOk (many : Int) = true := rng_ok (by omega) (by omega)
  have hmk2 : (many : Int) ≤ 16777216 := by omega
  have hg1 : Nat.log2 1000 < 9000 := by decide
  have hg2 : Nat.log2 211 < 9000 := by decide
  have h7 : mulOk 7 (k : Int) = true := mul_ok (by omega) (by omega)
  by_cases hks : k < s.length
  · obtain ⟨c, hc⟩ : ∃ c, s[k]? = some c := ⟨s[k], List.getElem?_eq_getElem hks⟩
    have h1 := at_nat P.int hc
    have hks' : (k : Int) < (s.length : Int) := by omega
    simp [w_run, i__law_numbers, PL.start, hks, h7, sub_scr, h1, hmk, hmk2, rngL_one]
    generalize hst : lSt _ _ _ _ _ = step
    obtain ⟨⟨lf, mx, acc⟩, e, i1, i2, _⟩ := forP_invM step (fun (i : Nat) => P.int (i : Int)) (fun (t : Int × Int × List Int) => [.fz (.scr (s.map .int)), .fz (.int k), .fz (.int many), .fz (.int c), .fz (.int t.1), .fz (.int t.2.1), .ow (t.2.2.map .int), .un]) (fun l t => l.length + t.2.2.length = many ∧ in1000 t.2.2 ∧ 0 ≤ t.2.1 ∧ t.2.1 < 2147483647 ∧ ∀ x ∈ l, x < many) (List.range many) (c, c % 2147483647, []) (by
      refine ⟨by simp, fun x hx => (by cases hx), (by show 0 ≤ c % 2147483647; omega), (by show c % 2147483647 < 2147483647; omega), fun x hx => List.mem_range.mp hx⟩) (fun a l ⟨lf, mx, acc⟩ ⟨j1, j2, j3, j4, j5⟩ => by
        simp only [List.length_cons] at j1 j2 j3 j4 j5
        have ha := j5 a List.mem_cons_self
        have hb : acc.length < big := by show acc.length < 16777216; omega
        have m1 : mulOk mx 48271 = true := mul_ok (by omega) (by omega)
        have m2 : mulOk 69621 (a : Int) = true := mul_ok (by omega) (by omega)
        have m3 : mulOk 40692 (k : Int) = true := mul_ok (by omega) (by omega)
        by_cases hc : 1000000000000000000 ≤ c ∧ 0 < lf
        · refine ⟨(lf / 1000, mx, acc ++ [lf % 1000]), ?_, ⟨by simp; omega, in1000_snoc j2 (by omega) (by omega), j3, j4, fun x hx => j5 x (List.mem_cons_of_mem _ hx)⟩⟩
          rw [← hst]
          simp [hc.1, hc.2, appS, hb, hg1]
        · obtain ⟨m, hmm⟩ : ∃ m, (mx * 48271 + 69621 * (a : Int) + 40692 * (k : Int) + 12345) % 2147483647 = m := ⟨_, rfl⟩
          have m4 : 0 ≤ m ∧ m < 2147483647 := by omega
          have m5 : mulOk m m = true := by
            unfold mulOk
            have : decide (m.natAbs < 2 ^ 64) = true := decide_eq_true (by omega)
            simp [this]
          refine ⟨(lf, m, acc ++ [m * m % 2147483629 / 211 % 1000]), ?_, ⟨by simp; omega, in1000_snoc j2 (by omega) (by omega), m4.1, m4.2, fun x hx => j5 x (List.mem_cons_of_mem _ hx)⟩⟩
          rw [← hst]
          by_cases hc1 : 1000000000000000000 ≤ c
          · have hc2 : ¬ 0 < lf := fun z => hc ⟨hc1, z⟩
            simp [hc1, hc2, appS, hb, m1, m2, m3, hmm, m5, hg2]
          · simp [hc1, appS, hb, m1, m2, m3, hmm, m5, hg2])
    refine ⟨acc, by simpa using i1, i2, ?_⟩
    simp only [List.map_nil] at e
    rw [e]
    simp [frzS, freezeS]
  · have hks' : ¬ (k : Int) < (s.length : Int) := by omega
    simp [w_run, i__law_numbers, PL.start, hks, h7, hmk, hmk2, rngL_one]
    generalize 7 * (k : Int) + (s.length : Int) = c
    generalize hst : lSt _ _ _ _ _ = step
    obtain ⟨⟨lf, mx, acc⟩, e, i1, i2, _⟩ := forP_invM step (fun (i : Nat) => P.int (i : Int)) (fun (t : Int × Int × List Int) => [.fz (.scr (s.map .int)), .fz (.int k), .fz (.int many), .fz (.int c), .fz (.int t.1), .fz (.int t.2.1), .ow (t.2.2.map .int), .un]) (fun l t => l.length + t.2.2.length = many ∧ in1000 t.2.2 ∧ 0 ≤ t.2.1 ∧ t.2.1 < 2147483647 ∧ ∀ x ∈ l, x < many) (List.range many) (c, c % 2147483647, []) (by
      refine ⟨by simp, fun x hx => (by cases hx), (by show 0 ≤ c % 2147483647; omega), (by show c % 2147483647 < 2147483647; omega), fun x hx => List.mem_range.mp hx⟩) (fun a l ⟨lf, mx, acc⟩ ⟨j1, j2, j3, j4, j5⟩ => by
        simp only [List.length_cons] at j1 j2 j3 j4 j5
        have ha := j5 a List.mem_cons_self
        have hb : acc.length < big := by show acc.length < 16777216; omega
        have m1 : mulOk mx 48271 = true := mul_ok (by omega) (by omega)
        have m2 : mulOk 69621 (a : Int) = true := mul_ok (by omega) (by omega)
        have m3 : mulOk 40692 (k : Int) = true := mul_ok (by omega) (by omega)
        by_cases hc : 1000000000000000000 ≤ c ∧ 0 < lf
        · refine ⟨(lf / 1000, mx, acc ++ [lf % 1000]), ?_, ⟨by simp; omega, in1000_snoc j2 (by omega) (by omega), j3, j4, fun x hx => j5 x (List.mem_cons_of_mem _ hx)⟩⟩
          rw [← hst]
          simp [hc.1, hc.2, appS, hb, hg1]
        · obtain ⟨m, hmm⟩ : ∃ m, (mx * 48271 + 69621 * (a : Int) + 40692 * (k : Int) + 12345) % 2147483647 = m := ⟨_, rfl⟩
          have m4 : 0 ≤ m ∧ m < 2147483647 := by omega
          have m5 : mulOk m m = true := by
            unfold mulOk
            have : decide (m.natAbs < 2 ^ 64) = true := decide_eq_true (by omega)
            simp [this]
          refine ⟨(lf, m, acc ++ [m * m % 2147483629 / 211 % 1000]), ?_, ⟨by simp; omega, in1000_snoc j2 (by omega) (by omega), m4.1, m4.2, fun x hx => j5 x (List.mem_cons_of_mem _ hx)⟩⟩
          rw [← hst]
          by_cases hc1 : 1000000000000000000 ≤ c
          · have hc2 : ¬ 0 < lf := fun z => hc ⟨hc1, z⟩
            simp [hc1, hc2, appS, hb, m1, m2, m3, hmm, m5, hg2]
          · simp [hc1, appS, hb, m1, m2, m3, hmm, m5, hg2])
    refine ⟨acc, by simpa using i1, i2, ?_⟩
    simp only [List.map_nil] at e
    rw [e]
    simp [frzS, freezeS]
/-- a number by its place -/
def gN (ns : List Int) (j : Int) : Int := ns.getD j.toNat 0
theorem at_get {ns : List Int} {j : Int} (h0 : 0 ≤ j) (h1 : j < (ns.length : Int)) : atL (ns.map .int) j = .ok (.int (gN ns j)) := by
  have hj : j.toNat < ns.length := by omega
  have := at_nat P.int (getD_at hj)
  rw [Int.toNat_of_nonneg h0] at this
  exact this
theorem gN_b {ns : List Int} (h : in1000 ns) (j : Int) : 0 ≤ gN ns j ∧ gN ns j < 1000 := by
  unfold gN
  by_cases hj : j.toNat < ns.length
  · have := getD_at hj
    exact h _ (List.mem_of_getElem? this)
  · have : ns.getD j.toNat 0 = 0 := by simp [List.getD, List.getElem?_eq_none (show ns.length ≤ j.toNat by omega)]
    rw [this]
    omega
/-- a row of a size within bounds -/
def rowIn (k : Nat) (most lo hi : Int) (r : Row) : Prop := r.1.length = k ∧ (∀ x ∈ r.1, 0 ≤ x ∧ x ≤ most) ∧ lo ≤ r.2 ∧ r.2 ≤ hi
theorem rowIn_B {k : Nat} {most lo hi most' lo' hi' : Int} {r : Row} (h : rowIn k most lo hi r) (h1 : most ≤ most') (h2 : lo' ≤ lo) (h3 : hi ≤ hi') : rowB k most' lo' hi' r = true := by
  obtain ⟨a, b, c, d⟩ := h
  unfold rowB entB
  rw [Bool.and_eq_true, Bool.and_eq_true, Bool.and_eq_true, List.all_eq_true]
  refine ⟨decide_eq_true (by omega), ⟨decide_eq_true (by omega), decide_eq_true (by omega)⟩, fun x hx => ?_⟩
  have := b x hx
  rw [Bool.and_eq_true]
  exact ⟨decide_eq_true this.1, decide_eq_true (by omega)⟩
theorem rowIn_w {k : Nat} {most lo hi most' lo' hi' : Int} {r : Row} (h : rowIn k most lo hi r) (h1 : most ≤ most') (h2 : lo' ≤ lo) (h3 : hi ≤ hi') : rowIn k most' lo' hi' r := by
  obtain ⟨a, b, c, d⟩ := h
  exact ⟨a, fun x hx => ⟨(b x hx).1, by have := (b x hx).2; omega⟩, by omega, by omega⟩
theorem e_lvector (n : Nat) (ns : List Int) (at' : Int) (size most : Nat) (h0 : 0 ≤ at') (h : at' + size ≤ ns.length) (hs : size ≤ 1000) : ∃ v : Vec, v.length = size ∧ (∀ x ∈ v, 0 ≤ x ∧ x ≤ most) ∧
    callF D G (n + 1) 36 [.lst (ns.map .int), .int at', .int size, .int most] = .ok (vP v) := by
  refine ⟨(List.range size).map fun (k : Nat) => max 0 (gN ns (at' + (k : Int)) % ((most : Int) + 3) - 2), by simp, fun x hx => ?_, ?_⟩
  · obtain ⟨k, _, rfl⟩ := List.mem_map.mp hx
    have h1 := Int.emod_lt_of_pos (gN ns (at' + (k : Int))) (show (0 : Int) < (most : Int) + 3 by omega)
    omega
  · rw [c__law_vector]
    have hk : rngOk (size : Int) = true := rng_ok (by omega) (by omega)
    have hk2 : (size : Int) ≤ 16777216 := by omega
    have hp : (0 : Int) < (most : Int) + 3 := by omega
    simp [w_run, i__law_vector, PL.start, hk, hk2, rngL_one]
    rw [compP_map (inj := fun (i : Nat) => P.int (i : Int)) (g := fun k => .int (max 0 (gN ns (at' + (k : Int)) % ((most : Int) + 3) - 2))) (l := List.range size)]
    · simp [vP, Function.comp_def]
    · intro k hk
      have hk := List.mem_range.mp hk
      have hg := at_get (ns := ns) (j := at' + (k : Int)) (by omega) (by omega)
      simp [sub_lst, hg, hp]
end K50
end

section
set_option Elab.async false
set_option linter.all false
set_option maxRecDepth 100000
set_option maxHeartbeats 2000000
/-! K50P8: .. forms, heads. -/
namespace K50
open PL
open KM (Vec Row addV subV leV members placeV prodB ext1 nonneg offF TT)
theorem sum_ge_mem : ∀ {l : Vec}, nonneg l → ∀ x ∈ l, x ≤ l.sum
  | [], _, x, h => by cases h
  | a :: l, hn, x, h => by
    have h0 : 0 ≤ l.sum := KM.sum_nonneg fun y hy => hn y (List.mem_cons_of_mem _ hy)
    have ha : 0 ≤ a := hn a List.mem_cons_self
    rw [List.sum_cons]
    rcases List.mem_cons.mp h with rfl | h
    · omega
    · have := sum_ge_mem (fun y hy => hn y (List.mem_cons_of_mem _ hy)) x h
      omega
theorem unit_b (size : Nat) (g : Int) : (unitV size g).length = size ∧ ∀ x ∈ unitV size g, 0 ≤ x ∧ x ≤ 1 := by
  refine ⟨by simp [unitV], fun x hx => ?_⟩
  obtain ⟨k, _, rfl⟩ := List.mem_map.mp hx
  by_cases h : (k : Int) = g <;> simp [h]
theorem unit_sum (size : Nat) (g : Int) (h0 : 0 ≤ g) (h1 : g < size) : 0 < (unitV size g).sum := by
  have hm : (1 : Int) ∈ unitV size g := List.mem_map.mpr ⟨g.toNat, List.mem_range.mpr (by omega), by simp; omega⟩
  have := sum_ge_mem (fun x hx => ((unit_b size g).2 x hx).1) 1 hm
  omega
theorem sum_vP (v : Vec) : bltP .sum [vP v] = .ok (.int v.sum) := by simp [bltP, vP, asS, intsL_map]
theorem e_lforms (n : Nat) (ns : List Int) (at' : Int) (many size most high : Nat) (h0 : 0 ≤ at') (h : at' + 5 * many ≤ ns.length) (hm : many ≤ 10) (hs : 1 ≤ size) (hs4 : size ≤ 4) (hmost : 1 ≤ most) (hh : 1 ≤ high) :
    ∃ fs : List Row, fs.length = many ∧ (∀ r ∈ fs, rowIn size most 1 high r ∧ 0 < r.1.sum) ∧
      callF D G (n + 2) 37 [.lst (ns.map .int), .int at', .int many, .int size, .int most, .int high] = .ok (rowsP fs) := by
  rw [c__law_forms]
  have hk : rngOk (many : Int) = true := rng_ok (by omega) (by omega)
  have hk2 : (many : Int) ≤ 16777216 := by omega
  have mv := fun (a : Int) (x : 0 ≤ a) (y : a + size ≤ ns.length) => e_lvector n ns a size most x y (by omega)
  have mu := fun (g : Int) => e_lunit n size (by omega) g
  generalize callF D G (n + 1) = Γ at mv mu ⊢
  simp [w_run, i__law_forms, PL.start, hk, hk2, rngL_one]
  generalize hst : lSt _ _ _ _ _ = step
  obtain ⟨fs, e, i1, i2, _⟩ := forP_invM step (fun (i : Nat) => P.int (i : Int)) (fun (t : List Row) => [.fz (.lst (ns.map .int)), .fz (.int at'), .fz (.int many), .fz (.int size), .fz (.int most), .fz (.int high), .ow (t.map rowP), .un, .un, .un])
    (fun l t => l.length + t.length = many ∧ (∀ r ∈ t, rowIn size most 1 high r ∧ 0 < r.1.sum) ∧ ∀ x ∈ l, x < many) (List.range many) [] ⟨by simp, fun r hr => (by cases hr), fun x hx => List.mem_range.mp hx⟩ (fun a l t ⟨j1, j2, j3⟩ => by
      simp only [List.length_cons] at j1
      have ha := j3 a List.mem_cons_self
      have hb : t.length < big := by show t.length < 16777216; omega
      have m1 : mulOk 5 (a : Int) = true := mul_ok (by omega) (by omega)
      obtain ⟨v, v1, v2, v3⟩ := mv (at' + 5 * (a : Int)) (by omega) (by omega)
      have hg := at_get (ns := ns) (j := at' + 5 * (a : Int) + 4) (by omega) (by omega)
      obtain ⟨x, hx⟩ : ∃ x, gN ns (at' + 5 * (a : Int) + 4) = x := ⟨_, rfl⟩
      rw [hx] at hg
      have hp : (0 : Int) < (size : Int) := by omega
      have hpn : 0 < size := hs
      have hpn2 : 0 < high := hh
      have hp2 : (0 : Int) < (high : Int) := by omega
      have b1 := Int.emod_nonneg x (show (size : Int) ≠ 0 by omega)
      have b2 := Int.emod_lt_of_pos x hp
      have b3 := Int.emod_nonneg x (show (high : Int) ≠ 0 by omega)
      have b4 := Int.emod_lt_of_pos x hp2
      have u1 := mu (x % size)
      have fin_ : ∀ w : Vec, w.length = size → (∀ y ∈ w, 0 ≤ y ∧ y ≤ (most : Int)) → 0 < w.sum →
          (l.length + (t ++ [(w, 1 + x % (high : Int))]).length = many ∧ (∀ r ∈ t ++ [(w, 1 + x % (high : Int))], rowIn size most 1 high r ∧ 0 < r.1.sum) ∧ ∀ y ∈ l, y < many) := fun w w1 w2 w3 => by
        refine ⟨by simp; omega, fun r hr => ?_, fun y hy => j3 y (List.mem_cons_of_mem _ hy)⟩
        rcases List.mem_append.mp hr with hr | hr
        · exact j2 r hr
        · have : r = (w, 1 + x % (high : Int)) := by simpa using hr
          subst this
          exact ⟨⟨w1, w2, by show 1 ≤ 1 + x % (high : Int); omega, by show 1 + x % (high : Int) ≤ high; omega⟩, w3⟩
      rw [← hst]
      by_cases hz : v.sum = 0
      · obtain ⟨w1, w2⟩ := unit_b size (x % size)
        refine ⟨t ++ [(unitV size (x % size), 1 + x % (high : Int))], ?_, fin_ _ w1 (fun y hy => ⟨(w2 y hy).1, by have := (w2 y hy).2; omega⟩) (unit_sum _ _ b1 b2)⟩
        simp [m1, v3, sum_vP, cmpI_eq, hz, sub_lst, hg, hp, hp2, hpn, hpn2, u1, appS, hb, rowP]
      · have hsn : 0 ≤ v.sum := KM.sum_nonneg fun y hy => (v2 y hy).1
        refine ⟨t ++ [(v, 1 + x % (high : Int))], ?_, fin_ _ v1 v2 (by omega)⟩
        simp [m1, v3, sum_vP, cmpI_eq, hz, sub_lst, hg, hp2, hpn2, appS, hb, rowP])
  refine ⟨fs, by simpa using i1, by simpa using i2, ?_⟩
  simp only [List.map_nil] at e
  rw [e]
  simp [frzS, freezeS, rowsP]
theorem zero_mul (k : Nat) (h : k ≤ 1000) : binP .mul (.tup [.int 0]) (.int k) = .ok (vP (List.replicate k 0)) := by
  have h0 : (0 : Int) ≤ k := by omega
  have h1 : (k : Int) ≤ 1000 := by omega
  simp [binP, h0, h1, vP, h]
abbrev zV (k : Nat) : Vec := List.replicate k 0
theorem e_lheads (n : Nat) (ns : List Int) (at' : Int) (many size most high : Nat) (h0 : 0 ≤ at') (h : at' + 5 * many ≤ ns.length) (hm : many ≤ 10) (hs : 1 ≤ size) (hs4 : size ≤ 4) (hh : 1 ≤ high) :
    ∃ fs : List Row, fs.length = many ∧ (∀ r ∈ fs, rowIn size most 0 (high - 1) r) ∧
      callF D G (n + 2) 38 [.lst (ns.map .int), .int at', .int many, .int size, .int most, .int high] = .ok (rowsP ((zV size, 0) :: fs)) := by
  rw [c__law_heads]
  have hk : rngOk (many : Int) = true := rng_ok (by omega) (by omega)
  have hk2 : (many : Int) ≤ 16777216 := by omega
  have mv := fun (a : Int) (x : 0 ≤ a) (y : a + size ≤ ns.length) => e_lvector n ns a size most x y (by omega)
  generalize callF D G (n + 1) = Γ at mv ⊢
  simp [w_run, i__law_heads, PL.start, zero_mul size (by omega), hk, hk2, rngL_one]
  generalize hst : lSt _ _ _ _ _ = step
  obtain ⟨fs, e, i1, i2, _⟩ := forP_invM step (fun (i : Nat) => P.int (i : Int)) (fun (t : List Row) => [.fz (.lst (ns.map .int)), .fz (.int at'), .fz (.int many), .fz (.int size), .fz (.int most), .fz (.int high), .ow (.tup [vP (zV size), .int 0] :: t.map rowP), .un, .un])
    (fun l t => l.length + t.length = many ∧ (∀ r ∈ t, rowIn size most 0 (high - 1) r) ∧ ∀ x ∈ l, x < many) (List.range many) [] ⟨by simp, fun r hr => (by cases hr), fun x hx => List.mem_range.mp hx⟩ (fun a l t ⟨j1, j2, j3⟩ => by
      simp only [List.length_cons] at j1
      have ha := j3 a List.mem_cons_self
      have hb : t.length + 1 < big := by show t.length + 1 < 16777216; omega
      have m1 : mulOk 5 (a : Int) = true := mul_ok (by omega) (by omega)
      obtain ⟨v, v1, v2, v3⟩ := mv (at' + 5 * (a : Int)) (by omega) (by omega)
      have hg := at_get (ns := ns) (j := at' + 5 * (a : Int) + 4) (by omega) (by omega)
      obtain ⟨x, hx⟩ : ∃ x, gN ns (at' + 5 * (a : Int) + 4) = x := ⟨_, rfl⟩
      rw [hx] at hg
      have hp2 : (0 : Int) < (high : Int) := by omega
      have hpn2 : 0 < high := hh
      have b3 := Int.emod_nonneg x (show (high : Int) ≠ 0 by omega)
      have b4 := Int.emod_lt_of_pos x hp2
      rw [← hst]
      refine ⟨t ++ [(v, x % (high : Int))], ?_, by simp; omega, fun r hr => ?_, fun y hy => j3 y (List.mem_cons_of_mem _ hy)⟩
      · simp [m1, v3, sub_lst, hg, hp2, hpn2, appS, hb, rowP]
      · rcases List.mem_append.mp hr with hr | hr
        · exact j2 r hr
        · have : r = (v, x % (high : Int)) := by simpa using hr
          subst this
          exact ⟨v1, v2, b3, by show x % (high : Int) ≤ high - 1; omega⟩)
  refine ⟨fs, by simpa using i1, by simpa using i2, ?_⟩
  simp only [List.map_nil] at e
  rw [e]
  simp [frzS, freezeS, rowsP, rowP]
theorem e_lmany (n : Nat) (many size : Nat) (hm1 : 1 ≤ many) (hm : many ≤ 400) (hs : 1 ≤ size) (hs4 : size ≤ 4) :
    ∃ fs : List Row, fs.length = many - 1 ∧ (∀ r ∈ fs, rowIn size 8 0 49 r) ∧ callF D G (n + 1) 45 [.int many, .int size] = .ok (rowsP ((zV size, 0) :: fs)) := by
  rw [c__law_many]
  obtain ⟨m, rfl⟩ : ∃ m, many = m + 1 := ⟨many - 1, by omega⟩
  have hk0 : rngOk (1 : Int) = true := rng_ok (by omega) (by omega)
  have hk : rngOk ((m : Int) + 1) = true := rng_ok (by omega) (by omega)
  have hk2 : (m : Int) ≤ 16777216 := by omega
  have hrl : rngL 1 m 1 = (List.range m).map fun (i : Nat) => P.int (1 + (i : Int)) := by
    unfold rngL
    apply List.map_congr_left
    intro i _
    rw [Int.mul_one]
  generalize callF D G n = Γ
  simp [w_run, i__law_many, PL.start, zero_mul size (by omega), hk0, hk, hk2, hrl]
  generalize hst : lSt _ _ _ _ _ = step
  obtain ⟨fs, e, i1, i2, _⟩ := forP_invM step (fun (i : Nat) => P.int (1 + (i : Int))) (fun (t : List Row) => [.fz (.int ((m : Int) + 1)), .fz (.int size), .ow (.tup [vP (zV size), .int 0] :: t.map rowP), .un, .un])
    (fun l t => l.length + t.length = m ∧ (∀ r ∈ t, rowIn size 8 0 49 r) ∧ ∀ x ∈ l, x < m) (List.range m) [] ⟨by simp, fun r hr => (by cases hr), fun x hx => List.mem_range.mp hx⟩ (fun a l t ⟨j1, j2, j3⟩ => by
      simp only [List.length_cons] at j1
      have ha := j3 a List.mem_cons_self
      have hb : t.length + 1 < big := by show t.length + 1 < 16777216; omega
      have m7 : mulOk (1 + (a : Int)) 7 = true := mul_ok (by omega) (by omega)
      have hks : rngOk (size : Int) = true := rng_ok (by omega) (by omega)
      have hks2 : (size : Int) ≤ 16777216 := by omega
      rw [← hst]
      refine ⟨t ++ [((List.range size).map fun (g : Nat) => ((1 + (a : Int)) * ((g : Int) + 2)) % 9, ((1 + (a : Int)) * 7) % 50)], ?_, by simp; omega, fun r hr => ?_, fun y hy => j3 y (List.mem_cons_of_mem _ hy)⟩
      · simp [m7, hks, hks2, rngL_one, hb]
        rw [compP_map (inj := fun (i : Nat) => P.int (i : Int)) (g := fun (g : Nat) => .int (((1 + (a : Int)) * ((g : Int) + 2)) % 9)) (l := List.range size)]
        · simp [appS, hb, rowP, vP, Function.comp_def, m7]
        · intro g hg
          have hg := List.mem_range.mp hg
          have m8 : mulOk (1 + (a : Int)) ((g : Int) + 2) = true := mul_ok (by omega) (by omega)
          simp [m8]
      · rcases List.mem_append.mp hr with hr | hr
        · exact j2 r hr
        · have : r = ((List.range size).map fun (g : Nat) => ((1 + (a : Int)) * ((g : Int) + 2)) % 9, ((1 + (a : Int)) * 7) % 50) := by simpa using hr
          subst this
          refine ⟨by simp, fun x hx => ?_, by show 0 ≤ ((1 + (a : Int)) * 7) % 50; omega, by show ((1 + (a : Int)) * 7) % 50 ≤ 49; omega⟩
          obtain ⟨g, _, rfl⟩ := List.mem_map.mp hx
          omega)
  refine ⟨fs, by simpa using i1, by simpa using i2, ?_⟩
  simp only [List.map_nil] at e
  rw [e]
  simp [frzS, freezeS, rowsP, rowP]
end K50
end

section
set_option Elab.async false
set_option linter.all false
set_option maxRecDepth 100000
set_option maxHeartbeats 2000000
/-! K50P9: the pair of tariffs, the tariff with needless heads. -/
namespace K50
open PL
open KM (Vec Row addV subV leV members placeV prodB ext1 nonneg offF TT)
def wp {α : Type} (r : Rs α) (Q : α → Prop) : Prop := ∃ a, r = .ok a ∧ Q a
theorem wp_kSeq {Γ : Nat → List P → Rs P} {G : Nat → P} {ss : ISs} {r : Rs Out} (Q : Ev → Prop) {R : Out → Prop} (h : wp r (fun o => ∃ ρ', o = .nx ρ' ∧ Q ρ')) (k : ∀ ρ', Q ρ' → wp (exs Γ G ss ρ') R) : wp (kSeq Γ G ss r) R := by
  obtain ⟨o, rfl, ρ', rfl, hq⟩ := h
  exact k ρ' hq
theorem wp_kRun {r : Rs Out} {R : P → Prop} (h : wp r (fun o => R (fin o))) : wp (kRun r) R := by
  obtain ⟨o, rfl, hq⟩ := h
  exact ⟨fin o, rfl, hq⟩
theorem wp_ok {α : Type} {r : Rs α} {a : α} {Q : α → Prop} (h : r = .ok a) (q : Q a) : wp r Q := ⟨a, h, q⟩
theorem wp_rt {r : Rs Out} (p : P) {R : P → Prop} (h : r = .ok (.rt p)) (q : R p) : wp r (fun o => R (fin o)) := ⟨.rt p, h, q⟩
theorem wp_nx {r : Rs Out} {ρ : Ev} {Q : Ev → Prop} (h : r = .ok (.nx ρ)) (q : Q ρ) : wp r (fun o => ∃ ρ', o = .nx ρ' ∧ Q ρ') := ⟨_, h, ρ, rfl, q⟩
def HdOk (size b : Nat) (H : List Row) : Prop := ∃ rest, H = (zV size, 0) :: rest ∧ (∀ r ∈ rest, rowIn size 1000 0 100000000 r) ∧ rest.length ≤ b
def FmOk (size : Nat) (F : List Row) : Prop := (∀ r ∈ F, rowIn size 20 1 1000000 r ∧ 0 < r.1.sum) ∧ F.length ≤ 12
theorem mk_tar {size : Nat} {H F : List Row} (h1 : 1 ≤ size) (h4 : size ≤ 4) (hh : HdOk size 399 H) (hf : FmOk size F) : OkTar size (H, F) := by
  obtain ⟨rest, rfl, hr, hl⟩ := hh
  refine ⟨⟨h1, h4⟩, ⟨rest, rfl⟩, by simp; omega, fun r hr' => ?_, hf.2, fun r hr' => ⟨rowIn_B (hf.1 r hr').1 (by omega) (by omega) (by omega), (hf.1 r hr').2⟩⟩
  rcases List.mem_cons.mp hr' with rfl | h
  · refine rowIn_B (most := 0) (lo := 0) (hi := 0) ⟨by simp, fun x hx => ?_, by omega, by omega⟩ (by omega) (by omega) (by omega)
    have := (List.mem_replicate.mp hx).2
    omega
  · exact rowIn_B (hr r h) (by omega) (by omega) (by omega)
theorem one_mul (X : P) (k : Nat) (h : k ≤ 1000) : binP .mul (.tup [X]) (.int k) = .ok (.tup (List.replicate k X)) := by
  have h0 : (0 : Int) ≤ k := by omega
  have h1 : (k : Int) ≤ 1000 := by omega
  simp [binP, h0, h1, h]
theorem log_ok {m : Int} (h0 : 0 < m) (h : m ≤ 1000000) : decide (m.natAbs.log2 < 9000) = true := by
  apply decide_eq_true
  rw [Nat.log2_lt (by omega)]
  exact Nat.lt_of_lt_of_le (show m.natAbs < 2 ^ 20 by omega) (Nat.pow_le_pow_right (by omega) (by omega))
theorem nat_of {x : Int} (h : 0 ≤ x) : ∃ k : Nat, x = k := ⟨x.toNat, by omega⟩
theorem pick (l : List Int) (j : Int) (h0 : 0 ≤ j) (h1 : j < (l.length : Int)) : ∃ x ∈ l, atL (l.map .int) j = .ok (.int x) :=
  ⟨gN l j, List.mem_of_getElem? (getD_at (by omega)), at_get h0 h1⟩
theorem e_lpair (n : Nat) (ns : List Int) (size : Nat) (hl : ns.length = 60) (hb : in1000 ns) (hs : 1 ≤ size) (hs3 : size ≤ 3) :
    ∃ a b, OkTar size a ∧ OkTar size b ∧ callF D G (n + 3) 46 [.lst (ns.map .int), .int size] = .ok (.tup [tarP a, tarP b]) := by
  suffices h : ∀ R : P → Prop, (∀ a b, OkTar size a → OkTar size b → R (.tup [tarP a, tarP b])) → wp (callF D G (n + 3) 46 [.lst (ns.map .int), .int size]) R by
    obtain ⟨p, h, a, b, h1, h2, rfl⟩ := h (fun p => ∃ a b, OkTar size a ∧ OkTar size b ∧ p = .tup [tarP a, tarP b]) fun a b h1 h2 => ⟨a, b, h1, h2, rfl⟩
    exact ⟨a, b, h1, h2, h⟩
  intro R hR
  obtain ⟨x1, hx1⟩ := nat_of (Int.emod_nonneg (gN ns 1) (show (4 : Int) ≠ 0 by omega))
  obtain ⟨x2, hx2⟩ := nat_of (Int.emod_nonneg (gN ns 2) (show (3 : Int) ≠ 0 by omega))
  obtain ⟨x3, hx3⟩ := nat_of (Int.emod_nonneg (gN ns 3) (show (4 : Int) ≠ 0 by omega))
  obtain ⟨x4, hx4⟩ := nat_of (Int.emod_nonneg (gN ns 4) (show (3 : Int) ≠ 0 by omega))
  obtain ⟨H, H1, H2, H3⟩ := e_lheads n ns 8 x1 size 3 21 (by omega) (by omega) (by omega) hs (by omega) (by omega)
  obtain ⟨O, O1, O2, O3⟩ := e_lheads n ns 33 x3 size 3 21 (by omega) (by omega) (by omega) hs (by omega) (by omega)
  obtain ⟨F, F1, F2, F3⟩ := e_lforms n ns 23 x2 size 3 15 (by omega) (by omega) (by omega) hs (by omega) (by omega) (by omega)
  obtain ⟨M, M1, M2, M3⟩ := e_lforms n ns 48 x4 size 3 15 (by omega) (by omega) (by omega) hs (by omega) (by omega) (by omega)
  have mm := fun (k : Nat) (a : 1 ≤ k) (b : k ≤ 400) => e_lmany (n + 1) k size a b hs (by omega)
  have mu := fun (g : Int) => e_lunit (n + 1) size (by omega) g
  rw [c__law_pair, w_run]
  generalize callF D G (n + 2) = Γ at *
  have hFm : ∀ F : List Row, (∀ r ∈ F, rowIn size ((3 : Nat) : Int) 1 ((15 : Nat) : Int) r ∧ 0 < r.1.sum) → F.length ≤ 12 → FmOk size F := fun F h1 h2 => ⟨fun r hr => ⟨rowIn_w (h1 r hr).1 (by omega) (by omega) (by omega), (h1 r hr).2⟩, h2⟩
  have hF := hFm F F2 (by omega)
  have hM := hFm M M2 (by omega)
  simp at H3 O3 F3 M3
  simp [i__law_pair, PL.start, at_get, hl, hx1, hx2, hx3, hx4, H3, O3, F3, M3]
  generalize hc5 : gN ns 5 % 2 = c5
  generalize hc6 : gN ns 6 % 8 = c6
  refine wp_kRun (wp_kSeq (fun ρ' => ∃ M', FmOk size M' ∧ ρ' = [.fz (.lst (ns.map .int)), .fz (.int size), .fz (rowsP ((zV size, 0) :: H)), .fz (rowsP ((zV size, 0) :: O)), .fz (rowsP F), .fz (rowsP M'), .un, .un, .un, .un]) ?_ ?_)
  · by_cases h : c5 = 1
    · exact wp_nx (by simp [h]) ⟨F, hF, rfl⟩
    · exact wp_nx (by simp [h]) ⟨M, hM, rfl⟩
  rintro _ ⟨M', hM', rfl⟩
  simp [at_get, hl, hc6]
  by_cases h12 : c6 = 1 ∨ c6 = 2
  · refine wp_kSeq (fun ρ' => ∃ H' O' F' M', HdOk size 399 H' ∧ HdOk size 399 O' ∧ FmOk size F' ∧ FmOk size M' ∧ ∃ s, ρ' = [.fz (.lst (ns.map .int)), .fz (.int size), .fz (rowsP H'), .fz (rowsP O'), .fz (rowsP F'), .fz (rowsP M'), .fz (.int c6), s, .un, .un]) ?_ ?_
    · have e1 : (if c6 = 1 then true else decide (c6 = 2)) = true := by rcases h12 with h | h <;> simp [h]
      obtain ⟨m, hm, em⟩ := pick [1, 2, 4, 5, 8, 10, 16, 20, 25, 40, 50, 80, 100, 200, 400] (gN ns 7 % 15) (by omega) (by simp; omega)
      have hm12 : 1 ≤ m ∧ m ≤ 400 := (show ∀ x ∈ ([1, 2, 4, 5, 8, 10, 16, 20, 25, 40, 50, 80, 100, 200, 400] : List Int), 1 ≤ x ∧ x ≤ 400 by decide) m hm
      obtain ⟨o, ho, eo⟩ := pick [400 / m, 400 / m + 1, 401 - m, 402 - m] (gN ns 8 % 4) (by omega) (by simp; omega)
      have ho1 : 1 ≤ o := by
        have a1 : 1 ≤ 400 / m := Int.le_ediv_of_mul_le (by omega) (by omega)
        simp at ho
        omega
      obtain ⟨mk, hmk⟩ := nat_of (x := m) (by omega)
      obtain ⟨ok, hok⟩ := nat_of (x := min 400 o) (by omega)
      obtain ⟨A, A1, A2, A3⟩ := mm mk (by omega) (by omega)
      obtain ⟨B, B1, B2, B3⟩ := mm ok (by omega) (by omega)
      rw [← hmk] at A3
      simp only [List.map_cons, List.map_nil] at em eo
      have hm0 : 0 < m := by omega
      have hlg := of_decide_eq_true (log_ok hm0 (by omega))
      have hHd : ∀ A : List Row, (∀ r ∈ A, rowIn size 8 0 49 r) → A.length ≤ 399 → HdOk size 399 ((zV size, 0) :: A) := fun A h1 h2 => ⟨A, rfl, fun r hr => rowIn_w (h1 r hr) (by omega) (by omega) (by omega), h2⟩
      have hun : ∀ k, k ≤ 12 → FmOk size (List.replicate k (unitV size 0, 2)) := fun k hk => ⟨fun r hr => by
        rw [(List.mem_replicate.mp hr).2]
        obtain ⟨u1, u2⟩ := unit_b size 0
        exact ⟨⟨u1, fun x hx => ⟨(u2 x hx).1, by have := (u2 x hx).2; omega⟩, (by show (1 : Int) ≤ 2; omega), (by show (2 : Int) ≤ 1000000; omega)⟩, unit_sum _ _ (by omega) (by omega)⟩, by simpa using hk⟩
      obtain ⟨c10, hc10⟩ := nat_of (x := 6 + gN ns 10 % 2) (by omega)
      obtain ⟨k6, hk6⟩ : ∃ k : Nat, (6 : Int) = k := ⟨6, rfl⟩
      have u6 := one_mul (.tup [vP (unitV size 0), .int 2]) k6 (by omega)
      have uc := one_mul (.tup [vP (unitV size 0), .int 2]) c10 (by omega)
      have q6 : P.tup (List.replicate k6 (.tup [vP (unitV size 0), .int 2])) = rowsP (List.replicate k6 (unitV size 0, 2)) := by simp [rowsP, rowP]
      have qc : P.tup (List.replicate c10 (.tup [vP (unitV size 0), .int 2])) = rowsP (List.replicate c10 (unitV size 0, 2)) := by simp [rowsP, rowP]
      rw [q6, ← hk6] at u6
      rw [qc] at uc
      have e1' : (c6 = 1 ∨ c6 = 2) = True := by simp [h12]
      by_cases h9 : gN ns 9 % 2 = 1
      · refine wp_nx (ρ := [.fz (.lst (ns.map .int)), .fz (.int size), .fz (rowsP ((zV size, 0) :: A)), .fz (rowsP ((zV size, 0) :: B)), .fz (rowsP (List.replicate k6 (unitV size 0, 2))), .fz (rowsP (List.replicate c10 (unitV size 0, 2))), .fz (.int c6), .fz (.int m), .un, .un]) ?_ ⟨_, _, _, _, hHd A A2 (by omega), hHd B B2 (by omega), hun k6 (by omega), hun c10 (by omega), _, rfl⟩
        rcases h12 with h | h <;> simp [h, at_get, hl, em, A3, hm0, hlg, eo, hok, B3, h9, mu, u6, uc, hc10]
      · refine wp_nx (ρ := [.fz (.lst (ns.map .int)), .fz (.int size), .fz (rowsP ((zV size, 0) :: A)), .fz (rowsP ((zV size, 0) :: B)), .fz (rowsP F), .fz (rowsP M'), .fz (.int c6), .fz (.int m), .un, .un]) ?_ ⟨_, _, _, _, hHd A A2 (by omega), hHd B B2 (by omega), hF, hM', _, rfl⟩
        rcases h12 with h | h <;> simp [h, at_get, hl, em, A3, hm0, hlg, eo, hok, B3, h9]
    · rintro _ ⟨H', O', F', M', h1, h2, h3, h4, s, rfl⟩
      have hn3 : c6 ≠ 3 := by omega
      exact wp_rt ((.tup [tarP (H', F'), tarP (O', M')])) (by simp [hn3, tarP]) (hR _ _ (mk_tar hs (by omega) h1 h3) (mk_tar hs (by omega) h2 h4))
  · have hn1 : c6 ≠ 1 := fun h => h12 (.inl h)
    have hn2 : c6 ≠ 2 := fun h => h12 (.inr h)
    have hHd : ∀ A : List Row, (∀ r ∈ A, rowIn size ((3 : Nat) : Int) 0 (((21 : Nat) : Int) - 1) r) → A.length ≤ 399 → HdOk size 399 ((zV size, 0) :: A) := fun A h1 h2 => ⟨A, rfl, fun r hr => rowIn_w (h1 r hr) (by omega) (by omega) (by omega), h2⟩
    have q1 : (H.length : Int) ≤ 3 := by omega
    have q2 : (O.length : Int) ≤ 3 := by omega
    by_cases h3 : c6 = 3
    · have hadd : ∀ (A : List Row) (r : Row), (∀ r ∈ A, rowIn size ((3 : Nat) : Int) 0 (((21 : Nat) : Int) - 1) r) → A.length ≤ 3 → rowIn size 1000 0 100000000 r → HdOk size 399 ((zV size, 0) :: (A ++ [r])) := fun A r h1 h2 h3 => ⟨A ++ [r], rfl, fun x hx => by
        rcases List.mem_append.mp hx with hx | hx
        · exact rowIn_w (h1 x hx) (by omega) (by omega) (by omega)
        · have : x = r := by simpa using hx
          exact this ▸ h3, by simp; omega⟩
      have hsk : rngOk (size : Int) = true := rng_ok (by omega) (by omega)
      have hsk2 : (size : Int) ≤ 16777216 := by omega
      have m15 := mu (gN ns 15 % size)
      obtain ⟨u1, u2⟩ := unit_b size (gN ns 15 % size)
      have hb1 : x1 + 1 + 1 ≤ big := by show x1 + 1 + 1 ≤ 16777216; omega
      have hb3 : x3 + 1 + 1 ≤ big := by show x3 + 1 + 1 ≤ 16777216; omega
      have hz : 0 < size := hs
      have cg := compP_map (cSt Γ G (.bin .sub (.c (.int 1000)) (.bin .mod (.blt .int (.cons (.subv 0 (.bin .add (.c (.int 11)) (.v 9))) .nil)) (.c (.int 3)))) (.v 9) [9] .no [.fz (.lst (ns.map .int)), .fz (.int size), .fz (rowsP ((zV size, 0) :: H)), .fz (rowsP ((zV size, 0) :: O)), .fz (rowsP F), .fz (rowsP M'), .fz (.int c6), .un, .un, .un]) (fun (i : Nat) => P.int (i : Int)) (fun g => .int (1000 - gN ns (11 + (g : Int)) % 3)) (List.range size) (fun g hg => by
        have hg := List.mem_range.mp hg
        have := at_get (ns := ns) (j := 11 + (g : Int)) (by omega) (by omega)
        simp [this])
      have hv : (List.range size).map (fun (g : Nat) => P.int (1000 - gN ns (11 + (g : Int)) % 3)) = ((List.range size).map fun (g : Nat) => 1000 - gN ns (11 + (g : Int)) % 3).map P.int := by simp
      rw [hv] at cg
      refine wp_rt ((.tup [tarP ((zV size, 0) :: (H ++ [((List.range size).map fun (g : Nat) => 1000 - gN ns (11 + (g : Int)) % 3, 100000000 - gN ns 14 % 3)]), F), tarP ((zV size, 0) :: (O ++ [(unitV size (gN ns 15 % size), gN ns 16 % 3)]), M')])) ?_ (hR _ _ (mk_tar hs (by omega) (hadd H _ H2 (by omega) ⟨by simp, fun x hx => ?_, ?_, ?_⟩) hF) (mk_tar hs (by omega) (hadd O _ O2 (by omega) ⟨u1, fun x hx => ?_, ?_, ?_⟩) hM'))
      · subst h3
        simp [at_get, hl, hsk, hsk2, rngL_one]
        rw [cg]
        simp [at_get, hl, hz, m15, rowsP, tarP, rowP, vP, hb1, hb3, H1, O1]
      · obtain ⟨g, _, rfl⟩ := List.mem_map.mp hx
        omega
      · show 0 ≤ 100000000 - gN ns 14 % 3; omega
      · show 100000000 - gN ns 14 % 3 ≤ 100000000; omega
      · exact ⟨(u2 x hx).1, by have := (u2 x hx).2; omega⟩
      · show 0 ≤ gN ns 16 % 3; omega
      · show gN ns 16 % 3 ≤ 100000000; omega
    · exact wp_rt ((.tup [tarP ((zV size, 0) :: H, F), tarP ((zV size, 0) :: O, M')])) (by simp [hn1, hn2, h3, tarP]) (hR _ _ (mk_tar hs (by omega) (hHd H H2 (by omega)) hF) (mk_tar hs (by omega) (hHd O O2 (by omega)) hM'))
end K50
end

section
set_option Elab.async false
set_option linter.all false
set_option maxRecDepth 100000
set_option maxHeartbeats 2000000
/-! K50P10: the tariff with needless heads, the goods. -/
namespace K50
open PL
open KM (Vec Row addV subV leV members placeV prodB ext1 nonneg offF TT)
theorem cut_pre {α : Type} (xs : List α) (c : Nat) : cut xs none (some (c : Int)) = xs.take c := by
  have h : ¬ (c : Int) < 0 := by omega
  simp only [cut, sIx, if_neg h, Int.toNat_natCast, Nat.sub_zero, List.drop_zero]
  rw [List.take_eq_take_iff]
  omega
theorem cut_suf {α : Type} (xs : List α) (c : Nat) : cut xs (some (c : Int)) none = xs.drop c := by
  have h : ¬ (c : Int) < 0 := by omega
  simp only [cut, sIx, if_neg h, Int.toNat_natCast]
  by_cases hc : c ≤ xs.length
  · rw [Nat.min_eq_left hc]
    exact List.take_of_length_le (by rw [List.length_drop]; omega)
  · rw [Nat.min_eq_right (by omega), List.drop_eq_nil_of_le (Nat.le_refl _), List.drop_eq_nil_of_le (by omega), List.take_nil]
theorem slc_pre (xs : List P) (c : Nat) : slcP none (some (c : Int)) (.tup xs) = .ok (.tup (xs.take c)) := by
  rw [← cut_pre]; rfl
theorem slc_suf (xs : List P) (c : Nat) : slcP (some (c : Int)) none (.tup xs) = .ok (.tup (xs.drop c)) := by
  rw [← cut_suf]; rfl
theorem slc_pre1 (x : P) (xs : List P) (c : Nat) : slcP none (some ((c : Int) + 1)) (.tup (x :: xs)) = .ok (.tup (x :: xs.take c)) := slc_pre (x :: xs) (c + 1)
theorem slc_suf1 (x : P) (xs : List P) (c : Nat) : slcP (some ((c : Int) + 1)) none (.tup (x :: xs)) = .ok (.tup (xs.drop c)) := slc_suf (x :: xs) (c + 1)
theorem pickR {α : Type} (f : α → P) (l : List α) (j : Int) (h0 : 0 ≤ j) (h1 : j < (l.length : Int)) : ∃ x ∈ l, atL (l.map f) j = .ok (f x) := by
  obtain ⟨k, rfl⟩ := nat_of h0
  have hk : k < l.length := by omega
  have h := List.getElem?_eq_getElem hk
  exact ⟨l[k], List.getElem_mem hk, at_nat f h⟩
theorem mem_zipWith {f : Int → Int → Int} : ∀ {a b : Vec} {x : Int}, x ∈ List.zipWith f a b → ∃ p ∈ a, ∃ q ∈ b, x = f p q
  | [], _, _, h => by simp at h
  | _ :: _, [], _, h => by simp at h
  | p :: a, q :: b, x, h => by
    rw [List.zipWith_cons_cons] at h
    rcases List.mem_cons.mp h with rfl | h
    · exact ⟨p, List.mem_cons_self, q, List.mem_cons_self, rfl⟩
    · obtain ⟨p', h1, q', h2, e⟩ := mem_zipWith h
      exact ⟨p', List.mem_cons_of_mem _ h1, q', List.mem_cons_of_mem _ h2, e⟩
theorem rowIn_add {k : Nat} {m lo hi m' lo' hi' : Int} {r r' : Row} (h : rowIn k m lo hi r) (h' : rowIn k m' lo' hi' r') : rowIn k (m + m') (lo + lo') (hi + hi') (addV r.1 r'.1, r.2 + r'.2) := by
  obtain ⟨a, b, c, d⟩ := h
  obtain ⟨a', b', c', d'⟩ := h'
  refine ⟨by show (addV r.1 r'.1).length = k; rw [KM.addV_len (a.trans a'.symm), a], fun x hx => ?_, by show lo + lo' ≤ r.2 + r'.2; omega, by show r.2 + r'.2 ≤ hi + hi'; omega⟩
  obtain ⟨p, hp, q, hq, rfl⟩ := mem_zipWith hx
  have := b p hp
  have := b' q hq
  exact ⟨by show 0 ≤ p + q; omega, by show p + q ≤ m + m'; omega⟩
theorem rowIn_zero (k : Nat) {m hi : Int} (h : 0 ≤ m) (h2 : 0 ≤ hi) : rowIn k m 0 hi (zV k, 0) := ⟨by simp, fun x hx => by have := (List.mem_replicate.mp hx).2; omega, Int.le_refl 0, h2⟩
theorem e_lheady (n : Nat) (ns : List Int) (size : Nat) (hl : ns.length = 44) (hb : in1000 ns) (hs : 1 ≤ size) (hs3 : size ≤ 3) :
    ∃ a, OkTar size a ∧ callF D G (n + 3) 47 [.lst (ns.map .int), .int size] = .ok (tarP a) := by
  suffices h : ∀ R : P → Prop, (∀ a, OkTar size a → R (tarP a)) → wp (callF D G (n + 3) 47 [.lst (ns.map .int), .int size]) R by
    obtain ⟨p, h, a, h1, rfl⟩ := h (fun p => ∃ a, OkTar size a ∧ p = tarP a) fun a h1 => ⟨a, h1, rfl⟩
    exact ⟨a, h1, h⟩
  intro R hR
  obtain ⟨x1, hx1⟩ := nat_of (Int.emod_nonneg (gN ns 1) (show (4 : Int) ≠ 0 by omega))
  obtain ⟨x2, hx2⟩ := nat_of (Int.emod_nonneg (gN ns 2) (show (3 : Int) ≠ 0 by omega))
  obtain ⟨H, H1, H2, H3⟩ := e_lheads n ns 8 x1 size 3 21 (by omega) (by omega) (by omega) hs (by omega) (by omega)
  obtain ⟨F, F1, F2, F3⟩ := e_lforms n ns 23 x2 size 3 15 (by omega) (by omega) (by omega) hs (by omega) (by omega) (by omega)
  have mp := fun (a b : Vec) (h1 : a.length ≤ 1000) (h2 : a.length = b.length) => e_lplus (n + 1) a b h1 h2
  rw [c__law_heady, w_run]
  generalize callF D G (n + 2) = Γ at *
  have hF : FmOk size F := ⟨fun r hr => ⟨rowIn_w (F2 r hr).1 (by omega) (by omega) (by omega), (F2 r hr).2⟩, by omega⟩
  simp at H3 F3
  have hr2 : rngOk 2 = true := rng_ok (by omega) (by omega)
  have h2b : (2 : Int) ≤ 16777216 := by omega
  simp [i__law_heady, PL.start, at_get, hl, hx1, hx2, H3, F3, hr2]
  rw [rngL_one]
  generalize hst : lSt _ _ _ _ _ = step
  obtain ⟨rest, e, -, i2, i3, -⟩ := forP_invM step (fun (i : Nat) => P.int (i : Int)) (fun (t : List Row) => [.fz (.lst (ns.map .int)), .fz (.int size), .fz (rowsP ((zV size, 0) :: t)), .fz (rowsP F), .un, .un, .un, .un, .un, .un, .un])
    (fun l t => l.length ≤ 2 ∧ (∀ r ∈ t, rowIn size (3 + 6 * (2 - (l.length : Int))) 0 (20 + 31 * (2 - (l.length : Int))) r) ∧ t.length + l.length ≤ 5 ∧ ∀ x ∈ l, x < 2) (List.range 2) H ⟨by simp, fun r hr => rowIn_w (H2 r hr) (by simp) (by omega) (by simp), by simp; omega, fun x hx => List.mem_range.mp hx⟩ (fun a l t ⟨j0, j1, j2, j3⟩ => by
      simp only [List.length_cons] at j0 j1 j2
      have ha := j3 a List.mem_cons_self
      have m4 : mulOk 4 (a : Int) = true := mul_ok (by omega) (by omega)
      have g1 := at_get (ns := ns) (j := 33 + 4 * (a : Int)) (by omega) (by omega)
      have g2 := at_get (ns := ns) (j := 33 + 4 * (a : Int) + 1) (by omega) (by omega)
      have g3 := at_get (ns := ns) (j := 33 + 4 * (a : Int) + 2) (by omega) (by omega)
      have g4 := at_get (ns := ns) (j := 33 + 4 * (a : Int) + 3) (by omega) (by omega)
      generalize gN ns (33 + 4 * (a : Int)) = z1 at g1
      generalize gN ns (33 + 4 * (a : Int) + 1) = z2 at g2
      generalize gN ns (33 + 4 * (a : Int) + 2) = z3 at g3
      generalize gN ns (33 + 4 * (a : Int) + 3) = z4 at g4
      have hp : (0 : Int) < (t.length : Int) + 1 := by omega
      have b1 := Int.emod_nonneg z1 (show (t.length : Int) + 1 ≠ 0 by omega)
      have b2 := Int.emod_lt_of_pos z1 hp
      have b3 := Int.emod_nonneg z4 (show (t.length : Int) + 1 ≠ 0 by omega)
      have b4 := Int.emod_lt_of_pos z4 hp
      obtain ⟨h0, hm, eh⟩ := pickR rowP ((zV size, 0) :: t) (z1 % ((t.length : Int) + 1)) b1 (by simp; omega)
      have hin : rowIn size (3 + 6 * (2 - ((l.length : Int) + 1))) 0 (20 + 31 * (2 - ((l.length : Int) + 1))) h0 := by
        rcases List.mem_cons.mp hm with rfl | hm
        · exact rowIn_zero _ (by omega) (by omega)
        · have := j1 h0 hm
          simpa using this
      obtain ⟨c, hc⟩ := nat_of (Int.emod_nonneg z2 (show (3 : Int) ≠ 0 by omega))
      obtain ⟨y, hy⟩ := nat_of b3
      have hcl : c ≤ 2 := by omega
      rw [← hst]
      have eh' : atL (rowP (zV size, 0) :: t.map rowP) (z1 % ((t.length : Int) + 1)) = .ok (rowP h0) := eh
      simp only [rowsP] at *
      simp [m4, g1, hp, eh', g2, hc, slc_pre]
      rw [← List.map_take]
      generalize hst2 : lSt _ _ _ _ _ = step2
      obtain ⟨h1, e1, -, hin1, -⟩ := forP_invM step2 rowP (fun (r : Row) => [.fz (.lst (ns.map .int)), .fz (.int size), .fz (.tup (rowP (zV size, 0) :: t.map rowP)), .fz (.tup (F.map rowP)), .fz (.int a), .fz (.int (33 + 4 * (a : Int))), .fz (rowP r), .un, .un, .un, .un])
        (fun l2 r => l2.length ≤ 2 ∧ rowIn size (3 + 6 * (2 - ((l.length : Int) + 1)) + 3 * (2 - (l2.length : Int))) 0 (20 + 31 * (2 - ((l.length : Int) + 1)) + 15 * (2 - (l2.length : Int))) r ∧ ∀ r ∈ l2, r ∈ F) (F.take c) h0 ⟨by simp; omega, rowIn_w hin (by simp; omega) (by omega) (by simp; omega), fun r hr => List.mem_of_mem_take hr⟩ (fun f l2 r ⟨k0, k1, k2⟩ => by
          simp only [List.length_cons] at k0 k1
          have hf := (F2 f (k2 f List.mem_cons_self)).1
          have hadd := rowIn_add k1 hf
          refine ⟨(addV r.1 f.1, r.2 + f.2), ?_, by omega, rowIn_w hadd (by simp; omega) (by simp) (by simp; omega), fun r hr => k2 r (List.mem_cons_of_mem _ hr)⟩
          have ep := mp r.1 f.1 (by rw [k1.1]; omega) (k1.1.trans hf.1.symm)
          rw [← hst2]
          simp [rowP, at_1, ep])
      rw [e1]
      have hbg1 : min y t.length + 1 + 1 ≤ big := by show min y t.length + 1 + 1 ≤ 16777216; omega
      have hbg2 : min y t.length + 1 + 1 + (t.length - y) ≤ big := by show min y t.length + 1 + 1 + (t.length - y) ≤ 16777216; omega
      have hy1 : (1 + (y : Int)) = (y : Int) + 1 := by omega
      refine ⟨t.take y ++ (h1.1, max 0 (h1.2 + z3 % 3 - 1)) :: t.drop y, ?_, by omega, fun ra rb hr => ?_, ?_, fun x hx => j3 x (List.mem_cons_of_mem _ hx)⟩
      · simp [rowP, at_1, g3, g4, hp, hy, hy1, slc_pre1, slc_suf1, hbg1, hbg2]
      · have hh1 : rowIn size (3 + 6 * (2 - (l.length : Int))) 0 (20 + 31 * (2 - (l.length : Int))) (h1.1, max 0 (h1.2 + z3 % 3 - 1)) := by
          obtain ⟨q1, q2, q3, q4⟩ := hin1
          simp at q2 q4
          refine ⟨q1, fun x hx => ⟨(q2 x hx).1, by have := (q2 x hx).2; omega⟩, by show 0 ≤ max 0 (h1.2 + z3 % 3 - 1); omega, by show max 0 (h1.2 + z3 % 3 - 1) ≤ 20 + 31 * (2 - (l.length : Int)); omega⟩
        have hold : ∀ r ∈ t, rowIn size (3 + 6 * (2 - (l.length : Int))) 0 (20 + 31 * (2 - (l.length : Int))) r := fun r hr => rowIn_w (j1 r hr) (by simp; omega) (by omega) (by simp; omega)
        rcases List.mem_append.mp hr with hr | hr
        · exact hold _ (List.mem_of_mem_take hr)
        · rcases List.mem_cons.mp hr with hr | hr
          · rw [hr]; exact hh1
          · exact hold _ (List.mem_of_mem_drop hr)
      · simp; omega)
  rw [e]
  have hHd : HdOk size 399 ((zV size, 0) :: rest) := ⟨rest, rfl, fun r hr => rowIn_w (i2 r hr) (by simp) (by omega) (by simp), by simp at i3; omega⟩
  simp [at_get, hl]
  refine wp_kRun (wp_kSeq (fun ρ' => ∃ H', HdOk size 399 H' ∧ ∃ s s', ρ' = [.fz (.lst (ns.map .int)), .fz (.int size), .fz (rowsP H'), .fz (rowsP F), .un, .un, .un, .un, .un, s, s']) ?_ ?_)
  · by_cases h1 : gN ns 3 % 8 = 1 ∧ 1 < size
    · obtain ⟨m, hm, em⟩ := pick [2, 4, 5, 8, 10, 16, 20, 25, 40, 50, 80, 100, 125, 200, 250, 400, 500, 1000] (gN ns 4 % 18) (by omega) (by simp; omega)
      have hm12 : (1 ≤ m ∧ m ≤ 1000) ∧ 2 ≤ 2000 / m ∧ 2000 / m ≤ 1000 := (show ∀ x ∈ ([2, 4, 5, 8, 10, 16, 20, 25, 40, 50, 80, 100, 125, 200, 250, 400, 500, 1000] : List Int), (1 ≤ x ∧ x ≤ 1000) ∧ 2 ≤ 2000 / x ∧ 2000 / x ≤ 1000 by decide) m hm
      simp only [List.map_cons, List.map_nil] at em
      have hm0 : 0 < m := by omega
      have hlg := of_decide_eq_true (log_ok hm0 (by omega))
      have hst : ∀ v : Vec, v.length = size → (∀ x ∈ v, 0 ≤ x ∧ x ≤ 1000) → HdOk size 399 [(zV size, 0), (v, gN ns 6 % 30)] := fun v v1 v2 => ⟨[(v, gN ns 6 % 30)], rfl, fun r hr => by
        have : r = (v, gN ns 6 % 30) := by simpa using hr
        subst this
        exact ⟨v1, v2, by show 0 ≤ gN ns 6 % 30; omega, by show gN ns 6 % 30 ≤ 100000000; omega⟩, by simp⟩
      have hsz : size = 2 ∨ size = 3 := by omega
      rcases hsz with rfl | rfl
      · refine wp_nx (ρ := [.fz (.lst (ns.map .int)), .fz (.int 2), .fz (rowsP [(zV 2, 0), ([m - 1, 2000 / m - 1 + gN ns 5 % 3 - 1], gN ns 6 % 30)]), .fz (rowsP F), .un, .un, .un, .un, .un, .fz (.int m), .fz (vP [m - 1, 2000 / m - 1 + gN ns 5 % 3 - 1])]) ?_ ⟨_, hst _ rfl (fun x hx => ?_), _, _, rfl⟩
        · simp [h1.1, at_get, hl, em, hm0, hlg, binP, rowsP, rowP, vP]
        · simp at hx
          omega
      · refine wp_nx (ρ := [.fz (.lst (ns.map .int)), .fz (.int 3), .fz (rowsP [(zV 3, 0), ([m - 1, 2000 / m - 1 + gN ns 5 % 3 - 1, 0], gN ns 6 % 30)]), .fz (rowsP F), .un, .un, .un, .un, .un, .fz (.int m), .fz (vP [m - 1, 2000 / m - 1 + gN ns 5 % 3 - 1, 0])]) ?_ ⟨_, hst _ rfl (fun x hx => ?_), _, _, rfl⟩
        · simp [h1.1, at_get, hl, em, hm0, hlg, binP, rowsP, rowP, vP]
        · simp at hx
          omega
    · refine wp_nx (ρ := [.fz (.lst (ns.map .int)), .fz (.int size), .fz (rowsP ((zV size, 0) :: rest)), .fz (rowsP F), .un, .un, .un, .un, .un, .un, .un]) ?_ ⟨_, hHd, _, _, rfl⟩
      by_cases h2 : gN ns 3 % 8 = 1
      · have h3 : ¬ 1 < size := fun h => h1 ⟨h2, h⟩
        have h4 : ¬ (1 : Int) < size := by omega
        simp [at_get, hl, h2, h4]
      · simp [at_get, hl, h2]
  · rintro _ ⟨H', h1, s, s', rfl⟩
    exact wp_rt _ (by simp [tarP]) (hR (H', F) (mk_tar hs (by omega) h1 hF))
theorem plain_leaf : ∀ {p : P} {d : Nat}, plain 0 p = true → plain d p = true := fun {p d} h => by
  cases p <;> first | (cases d <;> rfl) | cases h
theorem pickP (l : List P) (j : Int) (h0 : 0 ≤ j) (h1 : j < (l.length : Int)) : ∃ x ∈ l, atL l j = .ok x := by
  obtain ⟨x, hx, e⟩ := pickR id l j h0 h1
  exact ⟨x, hx, by simpa using e⟩
theorem put_ok {xs : List P} {j : Int} (h0 : 0 ≤ j) (h1 : j < (xs.length : Int)) (s0 s1 : Sl) (r : Ev) (v : P) : putS (s0 :: s1 :: .ow xs :: r) 2 (.int j) v = .ok (s0 :: s1 :: .ow (xs.set j.toNat v) :: r) := by
  show ((asI (.int j)).bind fun n => match ixN xs.length n with | some j => Rs.ok (List.set (s0 :: s1 :: .ow xs :: r) 2 (.ow (xs.set j v))) | none => .bad) = _
  simp [asI, ixN, h0, h1]
theorem set_mem {α : Type} {Q : α → Prop} {xs : List α} {i : Nat} {v : α} (h : ∀ x ∈ xs, Q x) (hv : Q v) : ∀ x ∈ xs.set i v, Q x := fun x hx => by
  rcases List.mem_or_eq_of_mem_set hx with hx | rfl
  · exact h x hx
  · exact hv
theorem e_lgoods (n : Nat) (ns : List Int) (size : Nat) (hl : ns.length = 24) (hb : in1000 ns) (hs : 1 ≤ size) (hs3 : size ≤ 3) :
    ∃ p, plain 1 p = true ∧ callF D G (n + 1) 48 [.lst (ns.map .int), .int size] = .ok p := by
  suffices h : ∀ R : P → Prop, (∀ p, plain 1 p = true → R p) → wp (callF D G (n + 1) 48 [.lst (ns.map .int), .int size]) R by
    obtain ⟨p, h, h1⟩ := h (fun p => plain 1 p = true) fun a h1 => h1
    exact ⟨p, h1, h⟩
  intro R hR
  rw [c__law_goods, w_run]
  generalize callF D G n = Γ
  have hsk : rngOk (size : Int) = true := rng_ok (by omega) (by omega)
  have hsk2 : (size : Int) ≤ 16777216 := by omega
  have hsz : 0 < size := hs
  simp [i__law_goods, PL.start, hsk, hsk2, rngL_one]
  rw [compP_filter (inj := fun (i : Nat) => P.int (i : Int)) (g := fun i => .int (i : Int)) (q := fun i => decide (gN ns (10 + (i : Int)) % 2 = 0)) (l := List.range size) _ (fun g hg => by
    have hg := List.mem_range.mp hg
    have := at_get (ns := ns) (j := 10 + (g : Int)) (by omega) (by omega)
    by_cases h : gN ns (10 + (g : Int)) % 2 = 0 <;> simp [this, h])]
  have hxs : ∀ x ∈ (List.filter (fun (i : Nat) => decide (gN ns (10 + (i : Int)) % 2 = 0)) (List.range size)).map (fun (i : Nat) => P.int (i : Int)), plain 0 x = true := fun x hx => by
    obtain ⟨k, _, rfl⟩ := List.mem_map.mp hx
    rfl
  have hxl : ((List.filter (fun (i : Nat) => decide (gN ns (10 + (i : Int)) % 2 = 0)) (List.range size)).map (fun (i : Nat) => P.int (i : Int))).length ≤ 3 := by
    rw [List.length_map]
    have := List.length_filter_le (fun (i : Nat) => decide (gN ns (10 + (i : Int)) % 2 = 0)) (List.range size)
    rw [List.length_range] at this
    omega
  generalize (List.filter (fun (i : Nat) => decide (gN ns (10 + (i : Int)) % 2 = 0)) (List.range size)).map (fun (i : Nat) => P.int (i : Int)) = xs at *
  simp
  refine wp_kRun (wp_kSeq (fun ρ' => ∃ xs, (∀ x ∈ xs, plain 0 x = true) ∧ 1 ≤ xs.length ∧ xs.length ≤ 3 ∧ ρ' = [.fz (.lst (ns.map .int)), .fz (.int size), .ow xs, .un, .un]) ?_ ?_)
  · by_cases h : xs.length = 0
    · refine wp_nx (ρ := [.fz (.lst (ns.map .int)), .fz (.int size), .ow [.int (gN ns 13 % size)], .un, .un]) ?_ ⟨_, fun x hx => ?_, by simp, by simp, rfl⟩
      · simp [List.length_eq_zero_iff.mp h, at_get, hl, hsz]
      · have : x = .int (gN ns 13 % size) := by simpa using hx
        rw [this]; rfl
    · exact wp_nx (ρ := [.fz (.lst (ns.map .int)), .fz (.int size), .ow xs, .un, .un]) (by
        have : xs ≠ [] := fun e => h (by rw [e]; rfl)
        simp [this]) ⟨_, hxs, by omega, hxl, rfl⟩
  clear hxs hxl
  clear xs
  rintro _ ⟨xs, hxs, hx1, hx3, rfl⟩
  simp
  refine wp_kSeq (fun ρ' => ∃ xs, (∀ x ∈ xs, plain 0 x = true) ∧ 1 ≤ xs.length ∧ xs.length ≤ 3 ∧ ∃ s, ρ' = [.fz (.lst (ns.map .int)), .fz (.int size), .ow xs, s, .un]) ?_ ?_
  · by_cases h : gN ns 14 % 2 = 1
    · have hp : (0 : Int) < (xs.length : Int) := by omega
      have hpn : 0 < xs.length := hx1
      have b1 := Int.emod_nonneg (gN ns 15) (show (xs.length : Int) ≠ 0 by omega)
      have b2 := Int.emod_lt_of_pos (gN ns 15) hp
      obtain ⟨x0, hm0, e0⟩ := pickP xs 0 (by omega) (by omega)
      obtain ⟨v, hv, ev⟩ := pickP [.int (-1), .int size, .bl true, .non, .str "0", x0, .int (size + gN ns 16)] (gN ns 17 % 7) (by omega) (by simp; omega)
      have hvp : plain 0 v = true := by
        simp at hv
        rcases hv with rfl | rfl | rfl | rfl | rfl | rfl | rfl <;> first | rfl | exact hxs _ hm0
      refine wp_nx (ρ := [.fz (.lst (ns.map .int)), .fz (.int size), .ow (xs.set (gN ns 15 % xs.length).toNat v), .fz (.int (gN ns 15 % xs.length)), .un]) ?_ ⟨_, set_mem hxs hvp, by simpa using hx1, by simpa using hx3, _, rfl⟩
      simp [at_get, hl, h, hp, hpn, e0, ev, put_ok b1 b2]
    · exact wp_nx (ρ := [.fz (.lst (ns.map .int)), .fz (.int size), .ow xs, .un, .un]) (by simp [at_get, hl, h]) ⟨_, hxs, hx1, hx3, _, rfl⟩
  clear hxs hx1 hx3
  clear xs
  rintro _ ⟨xs, hxs, hx1, hx3, s, rfl⟩
  simp
  by_cases h : gN ns 18 % 8 = 1
  · obtain ⟨v, hv, ev⟩ := pickP [.tup [], .non, .int 0, .str "0", .bl true] (gN ns 19 % 5) (by omega) (by simp; omega)
    refine wp_rt v (by simp [at_get, hl, h, ev]) (hR _ ?_)
    simp at hv
    rcases hv with rfl | rfl | rfl | rfl | rfl <;> rfl
  · refine wp_rt (.tup xs) (by simp [at_get, hl, h, frzS, freezeS]) (hR _ ?_)
    show (decide (xs.length ≤ 1000) && xs.all (plain 0)) = true
    rw [Bool.and_eq_true, List.all_eq_true]
    exact ⟨decide_eq_true (by omega), hxs⟩
end K50
end

section
set_option Elab.async false
set_option linter.all false
set_option maxRecDepth 100000
set_option maxHeartbeats 2000000
/-! K50P11: what is told; better, apart. -/
namespace K50
open PL
open KM (Vec Row addV subV leV members placeV prodB ext1 nonneg offF TT)
theorem eqvs_map {α : Type} [DecidableEq α] (f : α → P) (h : ∀ a b, eqv (f a) (f b) = decide (a = b)) : ∀ l l' : List α, eqvs (l.map f) (l'.map f) = decide (l = l')
  | [], [] => by simp [eqvs]
  | [], _ :: _ => by simp [eqvs]
  | _ :: _, [] => by simp [eqvs]
  | a :: l, b :: l' => by
    simp only [List.map_cons, eqvs, h, eqvs_map f h l l']
    by_cases h1 : a = b <;> by_cases h2 : l = l' <;> simp [h1, h2]
theorem eqv_int (a b : Int) : eqv (.int a) (.int b) = decide (a = b) := rfl
theorem eqv_vP (a b : Vec) : eqv (vP a) (vP b) = decide (a = b) := eqvs_map P.int eqv_int a b
theorem eqv_row (a b : Row) : eqv (rowP a) (rowP b) = decide (a = b) := by
  obtain ⟨a1, a2⟩ := a
  obtain ⟨b1, b2⟩ := b
  show eqvs [vP a1, .int a2] [vP b1, .int b2] = _
  simp only [eqvs, eqv_vP, eqv_int]
  by_cases h1 : a1 = b1 <;> by_cases h2 : a2 = b2 <;> simp [h1, h2]
theorem eqv_rows (a b : List Row) : eqv (rowsP a) (rowsP b) = decide (a = b) := eqvs_map rowP eqv_row a b
theorem shps_map {α : Type} (f : α → P) (d : Nat) (h : ∀ a, shp d (f a) = true) : ∀ l : List α, shps d (l.map f) = true
  | [] => by simp [shps]
  | a :: l => by simp [shps, h, shps_map f d h l]
theorem shp_vP (d : Nat) (v : Vec) : shp (d + 1) (vP v) = true := by
  show shps d (v.map .int) = true
  exact shps_map _ _ (fun a => by cases d <;> simp [shp]) v
theorem shp_row (d : Nat) (r : Row) : shp (d + 2) (rowP r) = true := by
  show shps (d + 1) [vP r.1, .int r.2] = true
  simp [shps, shp_vP, shp]
theorem shp_rows (l : List Row) : shaped (rowsP l) = true := by
  show shps 59 (l.map rowP) = true
  exact shps_map _ _ (fun a => shp_row 57 a) l
theorem ne_rows (a b : List Row) : cmpP .ne (rowsP a) (rowsP b) = .ok (!decide (a = b)) := by
  show Rs.when (eqOk (rowsP a) (rowsP b)) (.ok (!eqv (rowsP a) (rowsP b))) = _
  have : eqOk (rowsP a) (rowsP b) = true := by
    show (shaped (rowsP a) && shaped (rowsP b)) = true
    rw [shp_rows, shp_rows]; rfl
  rw [this, eqv_rows]
  rfl
theorem tar_0 (t : Tar) : subP (tarP t) (.int 0) = .ok (rowsP t.1) := rfl
theorem tar_1 (t : Tar) : subP (tarP t) (.int 1) = .ok (rowsP t.2) := rfl
theorem e_better (n : Nat) {a b : Tar} {k : Nat} (ha : OkTar k a) (hb : OkTar k b) : callF D G (n + 7) 21 [tarP a, tarP b] =
    if a.2 = b.2 then (if 400 < a.1.length + (b.1.length - 1) then .exc ⟨4, [.int 400]⟩ else .ok (tarP (a.1 ++ b.1.tail, a.2))) else .exc ⟨3, [.str "forms"]⟩ := by
  rw [c_better, w_run]
  have e2 := e_two n ha hb
  generalize callF D G (n + 6) = Γ at e2 ⊢
  have g3 : G 3 = .int 400 := rfl
  by_cases h : a.2 = b.2
  · have sl : slcP (some 1) none (rowsP b.1) = .ok (rowsP b.1.tail) := by
      have := slc_suf (b.1.map rowP) 1
      simpa [rowsP] using this
    have ba : binP .add (rowsP a.1) (rowsP b.1.tail) = .ok (rowsP (a.1 ++ b.1.tail)) := by
      have hbig : a.1.length + (b.1.length - 1) ≤ big := by
        have := ha.hl
        have := hb.hl
        show a.1.length + (b.1.length - 1) ≤ 16777216
        omega
      simp [rowsP, hbig]
    obtain ⟨m, hm⟩ : ∃ m : Nat, a.1.length + (b.1.length - 1) = m := ⟨_, rfl⟩
    have hl : bltP .len [rowsP (a.1 ++ b.1.tail)] = .ok (.int (m : Int)) := by rw [← hm]; simp [rowsP]
    rw [hm]
    by_cases h4 : 400 < m
    · have h4' : (400 : Int) < m := by omega
      simp [i_better, PL.start, e2, tar_0, tar_1, ne_rows, h, sl, ba, hl, g3, h4, h4']
    · have h4' : ¬ (400 : Int) < m := by omega
      simp [i_better, PL.start, e2, tar_0, tar_1, ne_rows, h, sl, ba, hl, g3, h4, h4']
      rfl
  · simp [i_better, PL.start, e2, tar_1, ne_rows, h]
theorem e_lbetter (n : Nat) {a b : Tar} {k : Nat} (ha : OkTar k a) (hb : OkTar k b) : callF D G (n + 1) 40 [tarP a, tarP b] = .ok (
    if a.2 = b.2 then (if 400 < a.1.length + (b.1.length - 1) then .tup [.bl true, .tup [.str "many", .int 400]] else .tup [.bl false, tarP (a.1 ++ b.1.tail, a.2)]) else .tup [.bl true, .tup [.str "tariff", .str "forms"]]) := by
  rw [c__law_better, w_run]
  generalize callF D G n = Γ
  by_cases h : a.2 = b.2
  · have sl : slcP (some 1) none (rowsP b.1) = .ok (rowsP b.1.tail) := by
      have := slc_suf (b.1.map rowP) 1
      simpa [rowsP] using this
    have ba : binP .add (rowsP a.1) (rowsP b.1.tail) = .ok (rowsP (a.1 ++ b.1.tail)) := by
      have hbig : a.1.length + (b.1.length - 1) ≤ big := by
        have := ha.hl
        have := hb.hl
        show a.1.length + (b.1.length - 1) ≤ 16777216
        omega
      simp [rowsP, hbig]
    have hb1 : 1 ≤ b.1.length := by
      obtain ⟨r, hr⟩ := hb.h0
      rw [hr]; simp
    have l1 : bltP .len [rowsP a.1] = .ok (.int (a.1.length : Int)) := by simp [rowsP]
    have l2 : bltP .len [rowsP b.1] = .ok (.int (b.1.length : Int)) := by simp [rowsP]
    by_cases h4 : 400 < a.1.length + (b.1.length - 1)
    · have h4' : (400 : Int) < (a.1.length : Int) + (b.1.length : Int) - 1 := by omega
      simp [i__law_better, PL.start, tar_0, tar_1, ne_rows, h, sl, ba, l1, l2, h4, h4']
    · have h4' : ¬ (400 : Int) < (a.1.length : Int) + (b.1.length : Int) - 1 := by omega
      simp [i__law_better, PL.start, tar_0, tar_1, ne_rows, h, sl, ba, l1, l2, h4, h4']
      rfl
  · simp [i__law_better, PL.start, tar_1, ne_rows, h]
/-! what is told: of each door, of each end -/
section
variable (Γ : Nat → List P → Rs P) (A B g p : P)
theorem told0 (h : Γ 21 [A, B] = .ok p) : run Γ G i__law_told [.int 0, A, B, g] = .ok (.tup [.bl false, p]) := by
  simp [w_run, i__law_told, PL.start, h]
theorem told1 (h : Γ 22 [A, B] = .ok p) : run Γ G i__law_told [.int 1, A, B, g] = .ok (.tup [.bl false, p]) := by
  simp [w_run, i__law_told, PL.start, h]
theorem told2 (h : Γ 24 [A, g] = .ok p) : run Γ G i__law_told [.int 2, A, B, g] = .ok (.tup [.bl false, p]) := by
  simp [w_run, i__law_told, PL.start, h]
theorem told3 (h : Γ 25 [A] = .ok p) : run Γ G i__law_told [.int 3, A, B, g] = .ok (.tup [.bl false, p]) := by
  simp [w_run, i__law_told, PL.start, h]
/-- an exception that is told -/
def toldE : Exn → P
  | ⟨1, [a, b, c]⟩ => .tup [.bl true, .tup [.str "number", a, b, c]]
  | ⟨3, [a]⟩ => .tup [.bl true, .tup [.str "tariff", a]]
  | ⟨2, [a]⟩ => .tup [.bl true, .tup [.str "vector", a]]
  | ⟨4, [a]⟩ => .tup [.bl true, .tup [.str "many", a]]
  | ⟨5, [a]⟩ => .tup [.bl true, .tup [.str "wide", a]]
  | _ => .non
def canTell : Exn → Prop
  | ⟨1, [a, b, c]⟩ => True
  | ⟨3, [a]⟩ => True
  | ⟨2, [a]⟩ => True
  | ⟨4, [a]⟩ => True
  | ⟨5, [a]⟩ => True
  | _ => False
def hsT : IHs := match i__law_told.body with
  | .cons (.tryE _ hs) _ => hs
  | _ => .nil
theorem catchT (x : Exn) (h : canTell x) : catch_ x hsT = .ok (.rt (toldE x)) := by
  unfold canTell at h
  split at h <;> first | rfl | cases h
theorem told0e (x : Exn) (h : Γ 21 [A, B] = .exc x) (t : canTell x) : run Γ G i__law_told [.int 0, A, B, g] = .ok (toldE x) := by
  have := catchT x t
  simp [hsT, i__law_told] at this
  simp [w_run, i__law_told, PL.start, h, this]
theorem told1e (x : Exn) (h : Γ 22 [A, B] = .exc x) (t : canTell x) : run Γ G i__law_told [.int 1, A, B, g] = .ok (toldE x) := by
  have := catchT x t
  simp [hsT, i__law_told] at this
  simp [w_run, i__law_told, PL.start, h, this]
theorem told2e (x : Exn) (h : Γ 24 [A, g] = .exc x) (t : canTell x) : run Γ G i__law_told [.int 2, A, B, g] = .ok (toldE x) := by
  have := catchT x t
  simp [hsT, i__law_told] at this
  simp [w_run, i__law_told, PL.start, h, this]
theorem told3e (x : Exn) (h : Γ 25 [A] = .exc x) (t : canTell x) : run Γ G i__law_told [.int 3, A, B, g] = .ok (toldE x) := by
  have := catchT x t
  simp [hsT, i__law_told] at this
  simp [w_run, i__law_told, PL.start, h, this]
end
/-! apart -/
def prodR (a b : List Row) : List Row := a.flatMap fun h => b.map fun o => (addV h.1 o.1, h.2 + o.2)
theorem prod_len (a b : List Row) : (prodR a b).length = a.length * b.length := KM.flat_len a fun _ _ => by simp
theorem prod_cons (r : Row) (a b : List Row) : prodR (r :: a) b = (b.map fun o => (addV r.1 o.1, r.2 + o.2)) ++ prodR a b := rfl
theorem fold_prod (b : List Row) : ∀ (a acc : List Row), a.foldl (fun acc h => acc ++ b.map fun o => (addV h.1 o.1, h.2 + o.2)) acc = acc ++ prodR a b
  | [], acc => by simp [prodR]
  | r :: a, acc => by
    rw [List.foldl_cons, fold_prod b a, List.append_assoc]
    rfl
theorem fold_snoc {α β : Type} (f : α → β) : ∀ (l : List α) (acc : List β), l.foldl (fun acc x => acc ++ [f x]) acc = acc ++ l.map f
  | [], acc => by simp
  | x :: l, acc => by
    rw [List.foldl_cons, fold_snoc f l, List.append_assoc]
    rfl
theorem e_apart_heads (n : Nat) {a b : Tar} {k : Nat} (ha : OkTar k a) (hb : OkTar k b) (hm : a.1.length * b.1.length ≤ 400) (s3 : Sl) :
    exs (callF D G (n + 1)) G (.cons (.for_ (.pr (.v 4) (.v 5)) (.seq (.subv 0 (.c (.int 0)))) [4, 5, 6, 7]
 (.cons (.for_ (.pr (.v 6) (.v 7)) (.seq (.subv 1 (.c (.int 0)))) [6, 7]
 (.cons (.app 2 (.tup (.cons (.call 3 (.cons (.v 4) (.cons (.v 6) .nil))) (.cons (.bin .add (.v 5) (.v 7)) .nil))))
 .nil))
 .nil)) .nil) [.fz (tarP a), .fz (tarP b), .ow [], .un, .un, .un, .un, .un] = .ok (.nx [.fz (tarP a), .fz (tarP b), .ow ((prodR a.1 b.1).map rowP), .un, .un, .un, .un, .un]) := by
  have mp := fun (a b : Vec) (h1 : a.length ≤ big) => e_plus n a b h1
  generalize callF D G (n + 1) = Γ at mp ⊢
  simp [tar_0, rowsP]
  generalize hst : lSt _ _ _ _ _ = step
  have e := (forP_foldR step rowP (fun (t : List Row) => [.fz (tarP a), .fz (tarP b), .ow (t.map rowP), .un, .un, .un, .un, .un]) (fun acc h => acc ++ b.1.map fun o => (addV h.1 o.1, h.2 + o.2)) (fun l t => t.length + l.length * b.1.length ≤ 400 ∧ ∀ r ∈ l, r ∈ a.1) a.1 [] ⟨by simpa using hm, fun _ h => h⟩ (fun r l t ⟨i1, i2⟩ => by
    have i1' : t.length + (l.length + 1) * b.1.length ≤ 400 := i1
    have i3 : t.length + b.1.length + l.length * b.1.length ≤ 400 := by rw [Nat.add_mul, Nat.one_mul] at i1'; omega
    refine ⟨?_, by simp; omega, fun r hr => i2 r (List.mem_cons_of_mem _ hr)⟩
    rw [← hst]
    simp [rowP, tar_0, rowsP]
    generalize hst2 : lSt _ _ _ _ _ = step2
    have e2 := (forP_foldR step2 rowP (fun (t : List Row) => [.fz (tarP a), .fz (tarP b), .ow (t.map rowP), .un, .fz (vP r.1), .fz (.int r.2), .un, .un]) (fun acc o => acc ++ [(addV r.1 o.1, r.2 + o.2)]) (fun l t => t.length + l.length ≤ 400) b.1 t (by omega) (fun o l t j1 => by
      simp only [List.length_cons] at j1
      refine ⟨?_, by simp; omega⟩
      rw [← hst2]
      have hr := row_ok (ha.hs r (i2 r List.mem_cons_self))
      have hk := ha.kr
      have ep := mp r.1 o.1 (by show r.1.length ≤ 16777216; omega)
      have hb : t.length < big := by show t.length < 16777216; omega
      simp [rowP, ep, appS, hb])).1
    rw [fold_snoc (fun o : Row => (addV r.1 o.1, r.2 + o.2))] at e2
    rw [e2]
    simp)).1
  rw [fold_prod, List.nil_append] at e
  simp only [List.map_nil] at e
  exact e
end K50
end

section
set_option Elab.async false
set_option linter.all false
set_option maxRecDepth 100000
set_option maxHeartbeats 2000000
/-! K50P12: apart, as the program and as the law has it. -/
namespace K50
open PL
open KM (Vec Row addV subV leV members placeV prodB ext1 nonneg offF TT)
theorem add_zero (k : Nat) : addV (zV k) (zV k) = zV k := by
  unfold addV
  rw [List.zipWith_replicate]
  simp
theorem prod_h0 {k : Nat} {a b : Tar} (ha : OkTar k a) (hb : OkTar k b) : ∃ r, prodR a.1 b.1 = (List.replicate k 0, 0) :: r := by
  obtain ⟨r, hr⟩ := ha.h0
  obtain ⟨s, hs⟩ := hb.h0
  rw [hr, hs, prod_cons, List.map_cons, List.cons_append]
  refine ⟨(s.map fun o => (addV (List.replicate k 0) o.1, 0 + o.2)) ++ prodR r ((List.replicate k 0, 0) :: s), ?_⟩
  have h : (addV (List.replicate k 0, (0 : Int)).1 (List.replicate k 0, (0 : Int)).1, (List.replicate k 0, (0 : Int)).2 + (List.replicate k 0, (0 : Int)).2) = (List.replicate k 0, (0 : Int)) := Prod.ext (add_zero k) rfl
  rw [h]
theorem forms_ok {k : Nat} {a b : Tar} (ha : OkTar k a) (hb : OkTar k b) : ∀ r ∈ a.2 ++ b.2, badF k r = false := fun r hr => by
  have h : rowB k 20 1 1000000 r = true ∧ 0 < r.1.sum := by
    rcases List.mem_append.mp hr with hr | hr
    · exact ha.fs r hr
    · exact hb.fs r hr
  unfold badF
  rw [h.1, decide_eq_true h.2]
  rfl
def apartX (k : Nat) (a b : Tar) : Rs P :=
  if 400 < a.1.length * b.1.length then .exc ⟨4, [.int 400]⟩ else if 12 < a.2.length + b.2.length then .exc ⟨4, [.int 12]⟩ else
    match (prodR a.1 b.1).find? (badH k) with
    | some _ => .exc ⟨3, [.str "heads"]⟩
    | none => .ok (tarP (prodR a.1 b.1, a.2 ++ b.2))
theorem len_rows (l : List Row) : bltP .len [rowsP l] = .ok (.int (l.length : Int)) := by simp [rowsP]
theorem add_rows (a b : List Row) (h : a.length + b.length ≤ 16777216) : binP .add (rowsP a) (rowsP b) = .ok (rowsP (a ++ b)) := by
  have : a.length + b.length ≤ big := h
  simp [rowsP, this]
theorem e_apart (n : Nat) {a b : Tar} {k : Nat} (ha : OkTar k a) (hb : OkTar k b) : callF D G (n + 7) 22 [tarP a, tarP b] = apartX k a b := by
  rw [c_apart, w_run]
  have e2 := e_two n ha hb
  have hl1 := ha.hl
  have hl2 := hb.hl
  have g3 : G 3 = .int 400 := rfl
  have g4 : G 4 = .int 12 := rfl
  have mo : mulOk (a.1.length : Int) (b.1.length : Int) = true := mul_ok (by omega) (by omega)
  unfold apartX
  by_cases h4 : 400 < a.1.length * b.1.length
  · have h4' : (400 : Int) < (a.1.length : Int) * (b.1.length : Int) := by rw [← Int.natCast_mul]; omega
    simp [i_apart, PL.start, e2, tar_0, tar_1, len_rows, mo, h4, h4', g3]
  · have h4' : ¬ (400 : Int) < (a.1.length : Int) * (b.1.length : Int) := by rw [← Int.natCast_mul]; omega
    by_cases h12 : 12 < a.2.length + b.2.length
    · have h12' : (12 : Int) < (a.2.length : Int) + (b.2.length : Int) := by omega
      simp [i_apart, PL.start, e2, tar_0, tar_1, len_rows, mo, h4, h4', g3, g4, h12, h12']
    · have h12' : ¬ (12 : Int) < (a.2.length : Int) + (b.2.length : Int) := by omega
      have eh := e_apart_heads (n + 5) ha hb (by omega) .un
      simp [tar_0, rowsP] at eh
      have ec := e_check (n + 1) (prodR a.1 b.1, a.2 ++ b.2) k ha.kr (prod_h0 ha hb) (by show (prodR a.1 b.1).length ≤ 400; rw [prod_len]; omega)
      have hfl : ¬ 12 < (prodR a.1 b.1, a.2 ++ b.2).2.length := by simp; omega
      rw [if_neg hfl, find_none (forms_ok ha hb)] at ec
      have ar := add_rows a.2 b.2 (by omega)
      generalize callF D G (n + 6) = Γ at e2 eh ec ⊢
      simp only [rowsP] at ar
      simp [i_apart, PL.start, e2, tar_0, tar_1, len_rows, mo, h4, h4', g3, g4, h12, h12', rowsP]
      rw [eh]
      simp [frzS, freezeS, tar_1, rowsP, ar]
      have et : tarP (prodR a.1 b.1, a.2 ++ b.2) = .tup [.tup ((prodR a.1 b.1).map rowP), .tup ((a.2 ++ b.2).map rowP)] := rfl
      rw [et, List.map_append] at ec
      rw [et, List.map_append, ec]
      cases hf : (prodR a.1 b.1).find? (badH k) with
      | some x => simp
      | none => simp
def maxV : Vec → Int
  | [] => 0
  | x :: r => r.foldl max x
theorem foldl_max_lt (c : Int) : ∀ (l : Vec) (x : Int), c < l.foldl max x ↔ c < x ∨ ∃ y ∈ l, c < y
  | [], x => by simp
  | y :: l, x => by
    rw [List.foldl_cons, foldl_max_lt c l]
    constructor
    · rintro (h | ⟨z, hz, h⟩)
      · by_cases hx : c < x
        · exact .inl hx
        · exact .inr ⟨y, List.mem_cons_self, by omega⟩
      · exact .inr ⟨z, List.mem_cons_of_mem _ hz, h⟩
    · rintro (h | ⟨z, hz, h⟩)
      · exact .inl (by omega)
      · rcases List.mem_cons.mp hz with rfl | hz
        · exact .inl (by omega)
        · exact .inr ⟨z, hz, h⟩
theorem maxV_lt {v : Vec} (h : v ≠ []) (c : Int) : c < maxV v ↔ ∃ y ∈ v, c < y := by
  cases v with
  | nil => exact absurd rfl h
  | cons x r =>
    show c < r.foldl max x ↔ _
    rw [foldl_max_lt]
    simp
theorem max1_vP {v : Vec} (h : v ≠ []) : bltP .max1 [vP v] = .ok (.int (maxV v)) := by
  cases v with
  | nil => exact absurd rfl h
  | cons x r =>
    show ((Rs.ok ((x :: r).map P.int)).bind fun xs => match (intsL xs).bind maxL with | some m => Rs.ok (P.int m) | none => .bad) = _
    simp only [Rs.bind_ok, intsL_map]
    rfl
theorem badH_eq {k : Nat} (hk : 1 ≤ k) {r : Row} (h1 : r.1.length = k) (h2 : nonneg r.1) (h3 : 0 ≤ r.2) : badH k r = (decide (1000 < maxV r.1) || decide (100000000 < r.2)) := by
  have hne : r.1 ≠ [] := fun e => by rw [e] at h1; simp at h1; omega
  unfold badH rowB entB
  rw [Bool.eq_iff_iff]
  rw [Bool.or_eq_true, decide_eq_true_iff, decide_eq_true_iff, maxV_lt hne]
  rw [Bool.not_eq_true', Bool.and_eq_false_iff, Bool.and_eq_false_iff, Bool.and_eq_false_iff]
  have e1 : decide ((r.1.length : Int) = k) = true := decide_eq_true (by omega)
  have e2 : decide ((0 : Int) ≤ r.2) = true := decide_eq_true h3
  rw [e1, e2]
  constructor
  · rintro (h | (h | h) | h)
    · cases h
    · cases h
    · exact .inr (by have := of_decide_eq_false h; omega)
    · rw [List.all_eq_false] at h
      obtain ⟨x, hx, hn⟩ := h
      refine .inl ⟨x, hx, ?_⟩
      have := h2 x hx
      simp [this] at hn
      exact hn
  · rintro (⟨y, hy, h⟩ | h)
    · refine .inr (.inr ?_)
      rw [List.all_eq_false]
      refine ⟨y, hy, ?_⟩
      have : ¬ y ≤ 1000 := by omega
      simp [this]
    · exact .inr (.inl (.inr (decide_eq_false (by omega))))
theorem prod_rows {k : Nat} {a b : Tar} (ha : OkTar k a) (hb : OkTar k b) : ∀ r ∈ prodR a.1 b.1, r.1.length = k ∧ nonneg r.1 ∧ 0 ≤ r.2 := fun r hr => by
  obtain ⟨x, hx, hr⟩ := List.mem_flatMap.mp hr
  obtain ⟨y, hy, rfl⟩ := List.mem_map.mp hr
  obtain ⟨x1, x2, x3, _⟩ := row_ok (ha.hs x hx)
  obtain ⟨y1, y2, y3, _⟩ := row_ok (hb.hs y hy)
  exact ⟨by show (addV x.1 y.1).length = k; rw [KM.addV_len (x1.trans y1.symm), x1], KM.add_nonneg x2 y2, by show 0 ≤ x.2 + y.2; omega⟩
theorem e_lapart (n : Nat) {a b : Tar} {k : Nat} (ha : OkTar k a) (hb : OkTar k b) : callF D G (n + 2) 41 [tarP a, tarP b] = .ok (match apartX k a b with | .ok p => .tup [.bl false, p] | .exc x => toldE x | .bad => .non) := by
  rw [c__law_apart, w_run]
  have mp := fun (a b : Vec) (h1 : a.length ≤ 1000) (h2 : a.length = b.length) => e_lplus n a b h1 h2
  generalize callF D G (n + 1) = Γ at mp ⊢
  have hl1 := ha.hl
  have hl2 := hb.hl
  have hk := ha.kr
  have mo : mulOk (a.1.length : Int) (b.1.length : Int) = true := mul_ok (by omega) (by omega)
  unfold apartX
  by_cases h4 : 400 < a.1.length * b.1.length
  · have h4' : (400 : Int) < (a.1.length : Int) * (b.1.length : Int) := by rw [← Int.natCast_mul]; omega
    simp [i__law_apart, PL.start, tar_0, tar_1, len_rows, mo, h4, h4', toldE]
  · have h4' : ¬ (400 : Int) < (a.1.length : Int) * (b.1.length : Int) := by rw [← Int.natCast_mul]; omega
    by_cases h12 : 12 < a.2.length + b.2.length
    · have h12' : (12 : Int) < (a.2.length : Int) + (b.2.length : Int) := by omega
      simp [i__law_apart, PL.start, tar_0, tar_1, len_rows, mo, h4, h4', h12, h12', toldE]
    · have h12' : ¬ (12 : Int) < (a.2.length : Int) + (b.2.length : Int) := by omega
      have ar := add_rows a.2 b.2 (by omega)
      simp only [rowsP] at ar
      rw [if_neg h4, if_neg h12]
      simp [i__law_apart, PL.start, tar_0, tar_1, len_rows, mo, h4', h12', rowsP]
      generalize hst : lSt Γ G (.v 3) [3, 4] _ = step
      have e := (forP_foldR step rowP (fun (t : List Row) => [.fz (tarP a), .fz (tarP b), .ow (t.map rowP), .un, .un]) (fun acc h => acc ++ b.1.map fun o => (addV h.1 o.1, h.2 + o.2)) (fun l t => t.length + l.length * b.1.length ≤ 400 ∧ ∀ r ∈ l, r ∈ a.1) a.1 [] ⟨by simpa using h4, fun _ h => h⟩ (fun r l t ⟨i1, i2⟩ => by
        have i1' : t.length + (l.length + 1) * b.1.length ≤ 400 := i1
        have i3 : t.length + b.1.length + l.length * b.1.length ≤ 400 := by rw [Nat.add_mul, Nat.one_mul] at i1'; omega
        refine ⟨?_, by simp; omega, fun r hr => i2 r (List.mem_cons_of_mem _ hr)⟩
        rw [← hst]
        simp [rowP, tar_0, rowsP, at_1]
        rw [compP_map (inj := rowP) (g := fun o => rowP (addV r.1 o.1, r.2 + o.2)) (l := b.1) _ (fun o ho => by
          have hr := row_ok (ha.hs r (i2 r List.mem_cons_self))
          have ho := row_ok (hb.hs o ho)
          have ep := mp r.1 o.1 (by omega) (hr.1.trans ho.1.symm)
          simp [rowP, at_1, ep])]
        have hbg : t.length + b.1.length ≤ big := by show t.length + b.1.length ≤ 16777216; omega
        simp [extS, hbg, rowP, Function.comp_def])).1
      rw [fold_prod, List.nil_append] at e
      simp only [List.map_nil] at e
      rw [e]
      simp [frzS, freezeS]
      clear e hst step
      generalize hst : lSt _ _ _ _ _ = step
      rw [forP_ret step rowP _ (badH k) (fun _ => .ok (.rt (.tup [.bl true, .tup [.str "tariff", .str "heads"]]))) (prodR a.1 b.1) (fun r hr => by
        obtain ⟨r1, r2, r3⟩ := prod_rows ha hb r hr
        rw [badH_eq hk.1 r1 r2 r3, ← hst]
        have hne : r.1 ≠ [] := fun e => by rw [e] at r1; simp at r1; omega
        have hm := max1_vP hne
        by_cases c1 : 1000 < maxV r.1
        · simp [rowP, at_1, hm, c1]
        · by_cases c2 : 100000000 < r.2 <;> simp [rowP, at_1, hm, c1, c2]) (fun q _ ρ' h => by cases h)]
      cases hf : (prodR a.1 b.1).find? (badH k) with
      | some x => simp [toldE]
      | none =>
        simp [frzS, freezeS, tar_1, rowsP, ar]
        simp [tarP, rowsP]
end K50
end

section
set_option Elab.async false
set_option linter.all false
set_option maxRecDepth 100000
set_option maxHeartbeats 2000000
/-! K50P13: project, as the program and as the law has it. -/
namespace K50
open PL
open KM (Vec Row addV subV leV members placeV prodB ext1 nonneg offF TT)
/-- the first wrong index, with the least one that were right -/
def badAt (size : Int) : Int → List P → Option (P × Int)
  | _, [] => none
  | least, g :: r => match g with
    | .int i => if least ≤ i ∧ i < size then badAt size (i + 1) r else some (g, least)
    | _ => some (g, least)
theorem loop_goods (step : P → Ev → Rs Out) (size : Int) (E : Int → Ev) (bad : P → Int → Rs Out) (hb : ∀ g l ρ, bad g l ≠ .ok (.nx ρ)) (Q : P → Prop)
    (h1 : ∀ i least, least ≤ i ∧ i < size → step (.int i) (E least) = .ok (.nx (E (i + 1))))
    (h2 : ∀ g least, Q g → (∀ i, g = .int i → ¬ (least ≤ i ∧ i < size)) → step g (E least) = bad g least) :
    ∀ (l : List P) (least : Int), (∀ g ∈ l, Q g) → match badAt size least l with
      | some (g, m) => forP step l (E least) = bad g m
      | none => ∃ m, forP step l (E least) = .ok (.nx (E m))
  | [], least, _ => ⟨least, rfl⟩
  | g :: r, least, hq => by
    have hstop : (∀ i, g = .int i → ¬ (least ≤ i ∧ i < size)) → forP step (g :: r) (E least) = bad g least := fun h => by
      show seqO (step g (E least)) (fun ρ' => forP step r ρ') = _
      rw [h2 g least (hq g List.mem_cons_self) h]
      cases e : bad g least with
      | ok o => cases o with
        | nx ρ => exact absurd e (hb g least ρ)
        | rt p => rfl
      | exc x => rfl
      | bad => rfl
    cases g with
    | int i =>
      by_cases h : least ≤ i ∧ i < size
      · have ih := loop_goods step size E bad hb Q h1 h2 r (i + 1) fun g hg => hq g (List.mem_cons_of_mem _ hg)
        have e : badAt size least (.int i :: r) = badAt size (i + 1) r := by simp [badAt, h]
        rw [e]
        have es : forP step (.int i :: r) (E least) = forP step r (E (i + 1)) := by
          show seqO (step (.int i) (E least)) (fun ρ' => forP step r ρ') = _
          rw [h1 i least h]
          rfl
        rw [es]
        exact ih
      · have e : badAt size least (.int i :: r) = some (.int i, least) := by simp only [badAt, if_neg h]
        rw [e]
        exact hstop fun j hj => by cases hj; exact h
    | non => exact hstop fun j hj => by cases hj
    | bl b => exact hstop fun j hj => by cases hj
    | str x => exact hstop fun j hj => by cases hj
    | tup xs => exact hstop fun j hj => by cases hj
    | lst xs => exact hstop fun j hj => by cases hj
    | dic xs => exact hstop fun j hj => by cases hj
    | scr xs => exact hstop fun j hj => by cases hj
/-- indexes in order, within -/
def ascI (size : Int) : Int → List Int → Prop
  | _, [] => True
  | least, i :: r => (least ≤ i ∧ i < size) ∧ ascI size (i + 1) r
theorem bad_none {size : Int} : ∀ {l : List P} {least : Int}, badAt size least l = none → ∃ gs : List Int, l = gs.map .int ∧ ascI size least gs
  | [], _, _ => ⟨[], rfl, trivial⟩
  | g :: r, least, h => by
    cases g with
    | int i =>
      by_cases hc : least ≤ i ∧ i < size
      · have e : badAt size least (.int i :: r) = badAt size (i + 1) r := by simp [badAt, hc]
        rw [e] at h
        obtain ⟨gs, rfl, ha⟩ := bad_none h
        exact ⟨i :: gs, rfl, hc, ha⟩
      · have e : badAt size least (.int i :: r) = some (.int i, least) := by simp only [badAt, if_neg hc]
        rw [e] at h
        cases h
    | non => cases h
    | bl b => cases h
    | str x => cases h
    | tup xs => cases h
    | lst xs => cases h
    | dic xs => cases h
    | scr xs => cases h
theorem asc_mem {size : Int} : ∀ {gs : List Int} {least : Int}, ascI size least gs → ∀ g ∈ gs, least ≤ g ∧ g < size
  | [], _, _, g, hg => by cases hg
  | i :: r, least, h, g, hg => by
    rcases List.mem_cons.mp hg with rfl | hg
    · exact h.1
    · have := asc_mem h.2 g hg
      have := h.1
      omega
theorem asc_len {size : Int} : ∀ {gs : List Int} {least : Int}, ascI size least gs → least ≤ size → (gs.length : Int) ≤ size - least
  | [], _, _, h => by simp; omega
  | i :: r, least, h, _ => by
    have h1 := h.1
    have := asc_len h.2 (by omega)
    simp
    omega
/-- rows with noughts at all other goods -/
def projR (gs : List Int) (rows : List Row) : List Row := (rows.filter fun r => decide ((gs.map (gN r.1)).sum = r.1.sum)).map fun r => (gs.map (gN r.1), r.2)
theorem fold_filt {α β : Type} (q : α → Bool) (f : α → β) : ∀ (l : List α) (acc : List β), l.foldl (fun acc x => if q x then acc ++ [f x] else acc) acc = acc ++ (l.filter q).map f
  | [], acc => by simp
  | x :: l, acc => by
    rw [List.foldl_cons, fold_filt q f l]
    cases h : q x with
    | true => simp [h]
    | false => simp [h]
theorem filt_le {α : Type} (q : α → Bool) (l : List α) : (l.filter q).length ≤ l.length := List.length_filter_le q l
theorem e_picked (n : Nat) (rows : List Row) (gs : List Int) (k : Nat) (hrows : ∀ r ∈ rows, r.1.length = k) (hl : rows.length ≤ 400) (hg : ∀ g ∈ gs, 0 ≤ g ∧ g < (k : Int)) : callF D G (n + 2) 23 [rowsP rows, .tup (gs.map .int)] = .ok (rowsP (projR gs rows)) := by
  rw [c_picked, w_run]
  have mt := fun v => e_total n v
  generalize callF D G (n + 1) = Γ at mt ⊢
  simp [i_picked, PL.start, rowsP]
  generalize hst : lSt _ _ _ _ _ = step
  have e := (forP_foldR step rowP (fun (t : List Row) => [.fz (.tup (rows.map rowP)), .fz (.tup (gs.map .int)), .ow (t.map rowP), .un, .un, .un, .un])
    (fun acc r => if decide ((gs.map (gN r.1)).sum = r.1.sum) then acc ++ [(gs.map (gN r.1), r.2)] else acc) (fun l t => t.length + l.length ≤ 400 ∧ ∀ r ∈ l, r ∈ rows) rows [] ⟨by simpa using hl, fun _ h => h⟩ (fun r l t ⟨j1, j2⟩ => by
      simp only [List.length_cons] at j1
      have hr := hrows r (j2 r List.mem_cons_self)
      refine ⟨?_, by split <;> (try simp only [List.length_append, List.length_cons, List.length_nil]) <;> omega, fun r hr => j2 r (List.mem_cons_of_mem _ hr)⟩
      rw [← hst]
      simp [rowP, vP]
      rw [compP_map (inj := P.int) (g := fun g => .int (gN r.1 g)) (l := gs) _ (fun g hg' => by
        have := hg g hg'
        have := at_get (ns := r.1) (j := g) (by omega) (by omega)
        simp [this])]
      have hs : bltP .sum [.tup (gs.map fun g => P.int (gN r.1 g))] = .ok (.int (gs.map (gN r.1)).sum) := by
        have := sum_vP (gs.map (gN r.1))
        simpa [vP, Function.comp_def] using this
      have mt' := mt r.1
      simp only [vP] at mt'
      have hb : t.length < big := by show t.length < 16777216; omega
      by_cases c : (gs.map (gN r.1)).sum = r.1.sum
      · simp [hs, mt', c, appS, hb, rowP, vP, Function.comp_def]
      · simp [hs, mt', c])).1
  rw [fold_filt (fun r : Row => decide ((gs.map (gN r.1)).sum = r.1.sum)) (fun r => (gs.map (gN r.1), r.2)), List.nil_append] at e
  simp only [List.map_nil] at e
  rw [e]
  simp [frzS, freezeS, projR]
def projX (k : Nat) (a : Tar) (gp : P) : Rs P :=
  match gp with
  | .tup [] => .exc ⟨2, [gp]⟩
  | .tup gs => (match badAt k 0 gs with
    | some (g, m) => .exc ⟨1, [g, .int m, .int (k - 1)]⟩
    | none => .ok (tarP (projR ((intsL gs).getD []) a.1, projR ((intsL gs).getD []) a.2)))
  | _ => .exc ⟨2, [gp]⟩
theorem e_project (n : Nat) {a : Tar} {k : Nat} (ha : OkTar k a) (gp : P) (hp : plain 1 gp = true) : callF D G (n + 6) 24 [tarP a, gp] = projX k a gp := by
  rw [c_project, w_run]
  have e2 := e_check_ok n ha
  have mn := fun (i lo hi : Int) => e_number (n + 3) i lo hi
  have mno := fun (p : P) (lo hi : Int) (h : isI p = false) => e_number_no (n + 3) p lo hi h
  have mp1 := fun (gs : List Int) (hg : ∀ g ∈ gs, 0 ≤ g ∧ g < (k : Int)) => e_picked (n + 3) a.1 gs k (fun r hr => (row_ok (ha.hs r hr)).1) ha.hl hg
  have mp2 := fun (gs : List Int) (hg : ∀ g ∈ gs, 0 ≤ g ∧ g < (k : Int)) => e_picked (n + 3) a.2 gs k (fun r hr => (row_ok (ha.fs r hr).1).1) (by have := ha.fl; omega) hg
  generalize callF D G (n + 5) = Γ at e2 mn mno mp1 mp2 ⊢
  have leaf : ∀ p : P, bltP .isTuple [p] = .ok (.bl false) → run Γ G i_project [tarP a, p] = .exc ⟨2, [p]⟩ := fun p h => by
    simp [w_run, i_project, PL.start, e2, h]
  rw [← w_run]
  cases gp with
  | non => exact leaf _ rfl
  | bl b => exact leaf _ rfl
  | int i => exact leaf _ rfl
  | str x => exact leaf _ rfl
  | lst xs => cases hp
  | dic xs => cases hp
  | scr xs => cases hp
  | tup gs =>
    have hp' : (decide (gs.length ≤ 1000) && gs.all (plain 0)) = true := hp
    rw [Bool.and_eq_true, decide_eq_true_iff, List.all_eq_true] at hp'
    cases gs with
    | nil => simp [w_run, i_project, PL.start, e2, projX]
    | cons g0 gr =>
      generalize hgs : g0 :: gr = gs at *
      have hne : gs ≠ [] := by rw [← hgs]; simp
      have ep : projX k a (.tup gs) = (match badAt k 0 gs with
        | some (g, m) => .exc ⟨1, [g, .int m, .int (k - 1)]⟩
        | none => .ok (tarP (projR ((intsL gs).getD []) a.1, projR ((intsL gs).getD []) a.2))) := by
        rw [← hgs]; rfl
      rw [ep]
      have hl0 : ¬ ((gs.length : Int) = 0) := by
        have := List.length_pos_iff.mpr hne
        omega
      simp [w_run, i_project, PL.start, e2, hne]
      generalize hst : lSt _ _ _ _ _ = step
      have hloop := loop_goods step k (fun m => [.fz (tarP a), .fz (.tup gs), .fz (.int k), .fz (.int m), .un]) (fun g m => .exc ⟨1, [g, .int m, .int (k - 1)]⟩) (fun _ _ _ h => by cases h) (fun g => plain 0 g = true) (fun i m hi => by
        rw [← hst]
        have h1 : i ≤ (k : Int) - 1 := by omega
        simp [mn, hi.1, h1]) (fun g m hq hg => by
        rw [← hst]
        cases g with
        | int i =>
          have h0 := hg i rfl
          by_cases c1 : m ≤ i
          · have c2 : ¬ i ≤ (k : Int) - 1 := fun h => h0 ⟨c1, by omega⟩
            simp [mn, c1, c2]
          · simp [mn, c1]
        | non => simp [mno .non m ((k : Int) - 1) rfl]
        | bl b => simp [mno (.bl b) m ((k : Int) - 1) rfl]
        | str x => simp [mno (.str x) m ((k : Int) - 1) rfl]
        | tup xs => cases hq
        | lst xs => cases hq
        | dic xs => cases hq
        | scr xs => cases hq) gs 0 hp'.2
      cases hb : badAt k 0 gs with
      | some gm =>
        rw [hb] at hloop
        obtain ⟨g, m⟩ := gm
        simp only at hloop
        rw [hloop]
        simp
      | none =>
        rw [hb] at hloop
        obtain ⟨m, hloop⟩ := hloop
        rw [hloop]
        obtain ⟨is, rfl, hasc⟩ := bad_none hb
        have hm := asc_mem hasc
        simp [tar_0, tar_1, mp1 is hm, mp2 is hm, intsL_map]
        rfl
theorem e_lproject (n : Nat) {a : Tar} {k : Nat} (ha : OkTar k a) (gp : P) (hp : plain 1 gp = true) : callF D G (n + 1) 42 [tarP a, gp] = .ok (match projX k a gp with | .ok p => .tup [.bl false, p] | .exc x => toldE x | .bad => .non) := by
  rw [c__law_project]
  generalize callF D G n = Γ
  obtain ⟨hr, hh0⟩ := ha.h0
  have z0 : atL (a.1.map rowP) 0 = .ok (.tup [vP (zV k), .int 0]) := by rw [hh0]; exact at_0 _ _
  have leaf : ∀ p : P, bltP .isTuple [p] = .ok (.bl false) → run Γ G i__law_project [tarP a, p] = .ok (.tup [.bl true, .tup [.str "vector", p]]) := fun p h => by
    simp [w_run, i__law_project, PL.start, tar_0, rowsP, z0, vP, h]
  cases gp with
  | non => exact leaf _ rfl
  | bl b => exact leaf _ rfl
  | int i => exact leaf _ rfl
  | str x => exact leaf _ rfl
  | lst xs => cases hp
  | dic xs => cases hp
  | scr xs => cases hp
  | tup gs =>
    have hp' : (decide (gs.length ≤ 1000) && gs.all (plain 0)) = true := hp
    rw [Bool.and_eq_true, decide_eq_true_iff, List.all_eq_true] at hp'
    cases gs with
    | nil => simp [w_run, i__law_project, PL.start, tar_0, rowsP, z0, vP, projX, toldE]
    | cons g0 gr =>
      generalize hgs : g0 :: gr = gs at *
      have hne : gs ≠ [] := by rw [← hgs]; simp
      have ep : projX k a (.tup gs) = (match badAt k 0 gs with
        | some (g, m) => .exc ⟨1, [g, .int m, .int (k - 1)]⟩
        | none => .ok (tarP (projR ((intsL gs).getD []) a.1, projR ((intsL gs).getD []) a.2))) := by
        rw [← hgs]; rfl
      rw [ep]
      simp [w_run, i__law_project, PL.start, tar_0, rowsP, z0, vP, hne]
      generalize hst : lSt Γ G (.v 4) [4] _ = step
      have hloop := loop_goods step k (fun m => [.fz (tarP a), .fz (.tup gs), .fz (.int k), .fz (.int m), .un, .un, .un, .un, .un, .un]) (fun g m => .ok (.rt (.tup [.bl true, .tup [.str "number", g, .int m, .int (k - 1)]]))) (fun _ _ _ h => by cases h) (fun g => plain 0 g = true) (fun i m hi => by
        rw [← hst]
        have h1 : ¬ i < m := by omega
        have h2 : ¬ (k : Int) ≤ i := by omega
        simp [h1, h2]) (fun g m hq hg => by
        rw [← hst]
        cases g with
        | int i =>
          have h0 := hg i rfl
          by_cases c1 : i < m
          · simp [c1]
          · have c2 : (k : Int) ≤ i := by omega
            simp [c1, c2]
        | non =>
          have e : bltP .isInt [.non] = .ok (.bl false) := rfl
          simp [e]
        | bl b =>
          have e : bltP .isInt [.bl b] = .ok (.bl true) := rfl
          have e2 : bltP .isBool [.bl b] = .ok (.bl true) := rfl
          simp [e, e2]
        | str x =>
          have e : bltP .isInt [.str x] = .ok (.bl false) := rfl
          simp [e]
        | tup xs => cases hq
        | lst xs => cases hq
        | dic xs => cases hq
        | scr xs => cases hq) gs 0 hp'.2
      cases hb : badAt k 0 gs with
      | some gm =>
        rw [hb] at hloop
        obtain ⟨g, m⟩ := gm
        simp only at hloop
        rw [hloop]
        simp [toldE]
      | none =>
        rw [hb] at hloop
        obtain ⟨m, hloop⟩ := hloop
        rw [hloop]
        clear hloop hst step
        obtain ⟨is, rfl, hasc⟩ := bad_none hb
        have hm := asc_mem hasc
        simp
        have ht : asS (tarP a) = .ok ([a.1, a.2].map rowsP) := rfl
        rw [ht]
        simp only [kFor_0, wipeS_cons, wipeS_nil, List.set_cons_zero, List.set_cons_succ]
        generalize hst : lSt Γ G (.v 6) [4, 6, 7, 8, 9] _ = step
        have hwid : ∀ rows ∈ [a.1, a.2], rows.length ≤ 400 ∧ ∀ r ∈ rows, r.1.length = k := fun rows h => by
          simp at h
          rcases h with rfl | rfl
          · exact ⟨ha.hl, fun r hr => (row_ok (ha.hs r hr)).1⟩
          · exact ⟨by have := ha.fl; omega, fun r hr => (row_ok (ha.fs r hr).1).1⟩
        have e := (forP_foldR step rowsP (fun (t : List (List Row)) => [.fz (tarP a), .fz (.tup (is.map .int)), .fz (.int k), .fz (.int m), .un, .ow (t.map rowsP), .un, .un, .un, .un])
          (fun acc rows => acc ++ [projR is rows]) (fun l t => t.length + l.length ≤ 2 ∧ ∀ r ∈ l, r ∈ [a.1, a.2]) [a.1, a.2] [] ⟨by simp, fun _ h => h⟩ (fun rows l t ⟨j1, j2⟩ => by
            simp only [List.length_cons] at j1
            obtain ⟨hl, hrows⟩ := hwid rows (j2 rows List.mem_cons_self)
            refine ⟨?_, by simp; omega, fun r hr => j2 r (List.mem_cons_of_mem _ hr)⟩
            rw [← hst]
            simp [rowsP]
            generalize hst2 : lSt _ _ _ _ _ = step2
            have e := (forP_foldR step2 rowP (fun (t2 : List Row) => [.fz (tarP a), .fz (.tup (is.map .int)), .fz (.int k), .fz (.int m), .un, .ow (t.map rowsP), .fz (rowsP rows), .ow (t2.map rowP), .un, .un])
              (fun acc r => if decide ((is.map (gN r.1)).sum = r.1.sum) then acc ++ [(is.map (gN r.1), r.2)] else acc) (fun l t => t.length + l.length ≤ 400 ∧ ∀ r ∈ l, r ∈ rows) rows [] ⟨by simpa using hl, fun _ h => h⟩ (fun r l t ⟨j1, j2⟩ => by
                simp only [List.length_cons] at j1
                have hr := hrows r (j2 r List.mem_cons_self)
                refine ⟨?_, by split <;> (try simp only [List.length_append, List.length_cons, List.length_nil]) <;> omega, fun r hr => j2 r (List.mem_cons_of_mem _ hr)⟩
                rw [← hst2]
                simp [rowP, vP]
                rw [compP_map (inj := P.int) (g := fun g => .int (gN r.1 g)) (l := is) _ (fun g hg' => by
                  have := hm g hg'
                  have := at_get (ns := r.1) (j := g) (by omega) (by omega)
                  simp [this])]
                have hs : bltP .sum [.tup (is.map fun g => P.int (gN r.1 g))] = .ok (.int (is.map (gN r.1)).sum) := by
                  have := sum_vP (is.map (gN r.1))
                  simpa [vP, Function.comp_def] using this
                have hs2 := sum_vP r.1
                simp only [vP] at hs2
                have hb : t.length < big := by show t.length < 16777216; omega
                by_cases c : (is.map (gN r.1)).sum = r.1.sum
                · simp [hs, hs2, at_1, c, appS, hb, rowP, vP, Function.comp_def]
                · simp [hs, hs2, c])).1
            rw [fold_filt (fun r : Row => decide ((is.map (gN r.1)).sum = r.1.sum)) (fun r => (is.map (gN r.1), r.2)), List.nil_append] at e
            simp only [List.map_nil] at e
            have hb : t.length < big := by show t.length < 16777216; omega
            simp only [rowsP] at e ⊢
            rw [e]
            simp [frzS, freezeS, appS, hb, projR, rowsP])).1
        simp only [List.map_nil] at e
        rw [e]
        simp [frzS, freezeS, intsL_map, tarP]
end K50
end

section
set_option Elab.async false
set_option linter.all false
set_option maxRecDepth 100000
set_option maxHeartbeats 2000000
/-! K50P14: trim, as the program and as the law has it. -/
namespace K50
open PL
open KM (Vec Row addV subV leV members placeV prodB ext1 nonneg offF TT)
/-- the box of heads -/
def boxR (k : Nat) (hs : List Row) : Vec := hs.foldl (fun b h => List.zipWith max b h.1) (zV k)
theorem zip_max {a b : Vec} {k : Nat} (ha : a.length = k) (hb : b.length = k) : (List.zipWith max a b).length = k := by rw [List.length_zipWith, ha, hb, Nat.min_self]
theorem fold_box {k : Nat} : ∀ (hs : List Row) (b : Vec), b.length = k → smallB b → (∀ r ∈ hs, rowB k 1000 0 100000000 r = true) → (hs.foldl (fun b h => List.zipWith max b h.1) b).length = k ∧ smallB (hs.foldl (fun b h => List.zipWith max b h.1) b) ∧
    leV b (hs.foldl (fun b h => List.zipWith max b h.1) b) = true ∧ ∀ r ∈ hs, leV r.1 (hs.foldl (fun b h => List.zipWith max b h.1) b) = true
  | [], b, hb, hs, _ => ⟨hb, hs, KM.leV_refl b, fun r hr => by cases hr⟩
  | h :: hs, b, hb, hsm, hr => by
    obtain ⟨h1, h2, h3, h4, h5⟩ := row_ok (hr h List.mem_cons_self)
    have hl := zip_max hb h1
    have hsm2 : smallB (List.zipWith max b h.1) := fun x hx => by
      obtain ⟨p, hp, q, hq, rfl⟩ := mem_zipWith hx
      have := hsm p hp
      have := h5 q hq
      have := h2 q hq
      omega
    obtain ⟨i1, i2, i3, i4⟩ := fold_box hs (List.zipWith max b h.1) hl hsm2 fun r hr' => hr r (List.mem_cons_of_mem _ hr')
    have m1 : leV b (List.zipWith max b h.1) = true := (KM.leV_iff (hb.trans hl.symm)).mpr fun i x y hx hy => by
      rw [List.getElem?_zipWith, hx] at hy
      cases hz : h.1[i]? with
      | none => rw [hz] at hy; cases hy
      | some z => rw [hz] at hy; simp at hy; omega
    have m2 : leV h.1 (List.zipWith max b h.1) = true := (KM.leV_iff (h1.trans hl.symm)).mpr fun i x y hx hy => by
      rw [List.getElem?_zipWith, hx] at hy
      cases hz : b[i]? with
      | none => rw [hz] at hy; cases hy
      | some z => rw [hz] at hy; simp at hy; omega
    refine ⟨i1, i2, KM.leV_trans (hb.trans hl.symm) (hl.trans i1.symm) m1 i3, fun r hr' => ?_⟩
    rcases List.mem_cons.mp hr' with rfl | hr'
    · exact KM.leV_trans (h1.trans hl.symm) (hl.trans i1.symm) m2 i3
    · exact i4 r hr'
theorem box_ok {k : Nat} {a : Tar} (ha : OkTar k a) : OkBox k (boxR k a.1) ∧ ∀ r ∈ a.1, KM.inB r.1 (boxR k a.1) := by
  obtain ⟨h1, h2, h3, h4⟩ := fold_box a.1 (zV k) (by simp) (fun x hx => by have := (List.mem_replicate.mp hx).2; omega) ha.hs
  refine ⟨⟨h1, h2, ha.kr.2⟩, fun r hr => ⟨?_, ?_, h4 r hr⟩⟩
  · rw [(row_ok (ha.hs r hr)).1]; exact h1.symm
  · exact (row_ok (ha.hs r hr)).2.1
/-- what trim keeps behind the first m + 1 heads -/
def trimF (F : Vec → Int) (hs : List Row) : Nat → List Row → List Row
  | 0, T => hs.take 1 ++ T
  | m + 1, T => match hs[m + 1]? with
    | none => hs.take 1 ++ T
    | some h => if h.2 ≤ offF (hs.take (m + 1) ++ T) F h.1 then trimF F hs m T else trimF F hs m (h :: T)
def trimX (k : Nat) (a : Tar) : Rs P := if 2000 < prodB (boxR k a.1) then .exc ⟨5, [.int 2000]⟩ else .ok (tarP (trimF (TT a.2) a.1 (a.1.length - 1) [], a.2))
/-- from the last place to the first -/
theorem rng_down (m : Nat) : rngL ((m : Int) + 1) (m + 1) (-1) = .int ((m : Int) + 1) :: rngL (m : Int) m (-1) := by
  unfold rngL
  rw [List.range_succ_eq_map, List.map_cons, List.map_map]
  refine List.cons_eq_cons.mpr ⟨by simp, List.map_congr_left fun i _ => ?_⟩
  show P.int (((m : Int) + 1) + ((i + 1 : Nat) : Int) * -1) = P.int ((m : Int) + (i : Int) * -1)
  congr 1
  omega
theorem take_succ' {α : Type} {l : List α} {i : Nat} {a : α} (h : l[i]? = some a) : l.take (i + 1) = l.take i ++ [a] := by
  rw [List.take_add_one, h]; rfl
theorem slcL_pre (xs : List P) (c : Nat) : slcP none (some (c : Int)) (.lst xs) = .ok (.lst (xs.take c)) := by
  rw [← cut_pre]; rfl
theorem slcL_suf (xs : List P) (c : Nat) : slcP (some (c : Int)) none (.lst xs) = .ok (.lst (xs.drop c)) := by
  rw [← cut_suf]; rfl
theorem trim_loop (step : P → Ev → Rs Out) (F : Vec → Int) (hs : List Row) (E : List Row → Ev)
    (h : ∀ (m : Nat) (T : List Row) (x : Row), hs[m + 1]? = some x → (∀ t ∈ T, t ∈ hs) → T.length ≤ hs.length → step (.int ((m : Int) + 1)) (E (hs.take (m + 1) ++ x :: T)) = .ok (.nx (E (if x.2 ≤ offF (hs.take (m + 1) ++ T) F x.1 then hs.take (m + 1) ++ T else hs.take (m + 1) ++ x :: T)))) :
    ∀ (m : Nat) (T : List Row), m < hs.length → (∀ t ∈ T, t ∈ hs) → T.length + m < hs.length → forP step (rngL (m : Int) m (-1)) (E (hs.take (m + 1) ++ T)) = .ok (.nx (E (trimF F hs m T)))
  | 0, T, _, _, _ => rfl
  | m + 1, T, hm, hT, hl => by
    have hx : hs[m + 1]? = some hs[m + 1] := List.getElem?_eq_getElem hm
    have e1 : ((m + 1 : Nat) : Int) = (m : Int) + 1 := by omega
    rw [e1, rng_down]
    have e2 : hs.take (m + 1 + 1) ++ T = hs.take (m + 1) ++ hs[m + 1] :: T := by rw [take_succ' hx, List.append_assoc]; rfl
    rw [e2]
    have e3 := h m T _ hx hT (by omega)
    show seqO (step (.int ((m : Int) + 1)) (E (hs.take (m + 1) ++ hs[m + 1] :: T))) (fun ρ' => forP step (rngL (m : Int) m (-1)) ρ') = _
    rw [e3]
    have e4 : trimF F hs (m + 1) T = if hs[m + 1].2 ≤ offF (hs.take (m + 1) ++ T) F hs[m + 1].1 then trimF F hs m T else trimF F hs m (hs[m + 1] :: T) := by
      show (match hs[m + 1]? with | none => hs.take 1 ++ T | some h => if h.2 ≤ offF (hs.take (m + 1) ++ T) F h.1 then trimF F hs m T else trimF F hs m (h :: T)) = _
      rw [hx]
    rw [e4]
    by_cases c : hs[m + 1].2 ≤ offF (hs.take (m + 1) ++ T) F hs[m + 1].1
    · rw [if_pos c, if_pos c]
      exact trim_loop step F hs E h m T (by omega) hT (by omega)
    · rw [if_neg c, if_neg c]
      exact trim_loop step F hs E h m (hs[m + 1] :: T) (by omega) (fun t ht => by
        rcases List.mem_cons.mp ht with rfl | ht
        · exact List.getElem_mem hm
        · exact hT t ht) (by simp; omega)
theorem e_trim (n : Nat) {a : Tar} {k : Nat} (ha : OkTar k a) : callF D G (n + 6) 25 [tarP a] = trimX k a := by
  rw [c_trim, w_run]
  obtain ⟨hbox, hin⟩ := box_ok ha
  have e2 := e_check_ok n ha
  have ez := e_zero (n + 4) (k : Int) (by omega) (by have := ha.kr; omega)
  have et := fun (x y : Vec) (h : x.length ≤ big) => e_top (n + 4) x y h
  have eT := e_table (n + 2) a.2 (boxR k a.1) k hbox (tar_forms ha)
  have eb := fun (hs : List Row) (v : Vec) (h1 : KM.okHeads k hs) (h2 : KM.inB v (boxR k a.1)) => e_best (n + 3) (.lst (hs.map rowP)) hs v (boxR k a.1) (TT a.2) k hbox (rows_l hs) h1 h2
  generalize callF D G (n + 5) = Γ at e2 ez et eT eb ⊢
  have hk := ha.kr
  have hr1 := ha.hl
  have hne : 1 ≤ a.1.length := by obtain ⟨r, hr⟩ := ha.h0; rw [hr]; simp
  simp only [Int.toNat_natCast] at ez
  have e2' : Γ 16 [.tup [.tup (a.1.map rowP), .tup (a.2.map rowP)]] = .ok (.int k) := e2
  simp [i_trim, PL.start, e2', tarP, ez, rowsP]
  generalize hst : lSt _ _ _ _ _ = step
  have e := (forP_foldR step rowP (fun (b : Vec) => [.fz (.tup [.tup (a.1.map rowP), .tup (a.2.map rowP)]), .fz (.int k), .fz (vP b), .un, .un, .un, .un, .fz (.tup (a.1.map rowP)), .fz (.tup (a.2.map rowP)), .un]) (fun b h => List.zipWith max b h.1) (fun l b => b.length = k ∧ ∀ r ∈ l, r ∈ a.1) a.1 (zV k) ⟨by simp, fun _ h => h⟩ (fun r l b ⟨j1, j2⟩ => by
    have hr := row_ok (ha.hs r (j2 r List.mem_cons_self))
    refine ⟨?_, zip_max j1 hr.1, fun r hr => j2 r (List.mem_cons_of_mem _ hr)⟩
    have et' := et b r.1 (by show b.length ≤ 16777216; omega)
    rw [← hst]
    simp [rowP, et'])).1
  rw [e]
  have eT' : Γ 18 [.tup (a.2.map rowP), vP (boxR k a.1)] = _ := eT
  have hbx : a.1.foldl (fun b h => List.zipWith max b h.1) (zV k) = boxR k a.1 := rfl
  rw [hbx]
  unfold trimX
  clear e hst step
  by_cases hbig : 2000 < prodB (boxR k a.1)
  · simp [eT', hbig]
  · rw [if_neg hbig] at eT'
    have hrg : rngOk ((a.1.length : Int) - 1) = true := rng_ok (by omega) (by omega)
    have hrg0 : rngOk (0 : Int) = true := rng_ok (by omega) (by omega)
    have hb1 : (a.1.length : Int) - 1 ≤ 16777216 := by omega
    have hcast : (a.1.length : Int) - 1 = ((a.1.length - 1 : Nat) : Int) := by omega
    simp [eT', hbig, hrg, hrg0, hb1]
    rw [hcast]
    generalize hst : lSt _ _ _ _ _ = step
    have e := trim_loop step (TT a.2) a.1 (fun L => [.fz (.tup [.tup (a.1.map rowP), .tup (a.2.map rowP)]), .fz (.int k), .fz (vP (boxR k a.1)), .un, .fz (.tup ((members (boxR k a.1)).map fun v => .int (TT a.2 v))), .fz (.lst (L.map rowP)), .un, .fz (.tup (a.1.map rowP)), .fz (.tup (a.2.map rowP)), .un]) (fun m T x hx hT hTl => by
      have hlen := (List.getElem?_eq_some_iff.mp hx).1
      have hmem := List.mem_of_getElem? hx
      have hsub : ∀ t ∈ a.1.take (m + 1) ++ T, t ∈ a.1 := fun t ht => by
        rcases List.mem_append.mp ht with ht | ht
        · exact List.mem_of_mem_take ht
        · exact hT t ht
      have eb' := eb (a.1.take (m + 1) ++ T) x.1 (fun r hr => tar_heads ha r (hsub r hr)) (hin x hmem)
      have ex0 : atL (a.1.map rowP) ((m : Int) + 1) = .ok (rowP x) := at_nat rowP hx
      have s1 : slcP none (some ((m : Int) + 1)) (.lst ((a.1.take (m + 1) ++ x :: T).map rowP)) = .ok (.lst ((a.1.take (m + 1)).map rowP)) := by
        have := slcL_pre ((a.1.take (m + 1) ++ x :: T).map rowP) (m + 1)
        rw [List.map_append, List.take_left' (by rw [List.length_map, List.length_take]; omega)] at this
        rw [List.map_append]
        exact this
      have s2 : slcP (some ((m : Int) + 1 + 1)) none (.lst ((a.1.take (m + 1) ++ x :: T).map rowP)) = .ok (.lst (T.map rowP)) := by
        have := slcL_suf ((a.1.take (m + 1) ++ x :: T).map rowP) (m + 1 + 1)
        rw [List.map_append, ← List.drop_drop, List.drop_left' (by rw [List.length_map, List.length_take]; omega)] at this
        rw [List.map_append]
        simpa using this
      have hbg : (a.1.take (m + 1)).length + T.length ≤ big := by rw [List.length_take]; show min (m + 1) a.1.length + T.length ≤ 16777216; omega
      have s3 : binP .add (.lst ((a.1.take (m + 1)).map rowP)) (.lst (T.map rowP)) = .ok (.lst ((a.1.take (m + 1) ++ T).map rowP)) := by
        simp only [bin_addL, List.length_map, decide_eq_true hbg, Rs.when_true, List.map_append]
      rw [← hst]
      generalize a.1.take (m + 1) ++ x :: T = L1 at s1 s2 ⊢
      generalize a.1.take (m + 1) ++ T = L2 at s3 eb' ⊢
      generalize P.lst ((a.1.take (m + 1)).map rowP) = X1 at s1 s3
      generalize P.lst (T.map rowP) = X2 at s2 s3
      have r0 : subP (rowP x) (.int 0) = .ok (vP x.1) := rfl
      have r1 : subP (rowP x) (.int 1) = .ok (.int x.2) := rfl
      by_cases c : x.2 ≤ offF L2 (TT a.2) x.1
      · simp [s1, s2, s3, ex0, r0, r1, eb', c]
      · simp [s1, s2, s3, ex0, r0, r1, eb', c]) (a.1.length - 1) [] (by omega) (fun t ht => by cases ht) (by simp; omega)
    have et0 : a.1.take (a.1.length - 1 + 1) ++ [] = a.1 := by rw [List.append_nil, Nat.sub_add_cancel hne, List.take_length]
    rw [et0] at e
    have hn : a.1.length - 1 = ((((a.1.length - 1 : Nat) : Int) - 0)).toNat := by simp
    rw [e]
    simp [tarP, rowsP]
end K50
end

section
set_option Elab.async false
set_option linter.all false
set_option maxRecDepth 100000
set_option maxHeartbeats 2000000
/-! K50P15: trim as the law has it; needed heads. -/
namespace K50
open PL
open KM (Vec Row addV subV leV members placeV prodB ext1 nonneg offF TT)
theorem rng_up (x : Int) (m : Nat) : rngL x (m + 1) 1 = .int x :: rngL (x + 1) m 1 := by
  unfold rngL
  rw [List.range_succ_eq_map, List.map_cons, List.map_map]
  refine List.cons_eq_cons.mpr ⟨by simp, List.map_congr_left fun i _ => ?_⟩
  show P.int (x + ((i + 1 : Nat) : Int) * 1) = P.int (x + 1 + (i : Int) * 1)
  congr 1
  omega
def getR (hs : List Row) (i : Nat) : Row := hs.getD i ([], 0)
theorem getR_at {hs : List Row} {i : Nat} (h : i < hs.length) : hs[i]? = some (getR hs i) := by
  rw [List.getElem?_eq_getElem h]
  simp [getR, List.getD, h]
theorem range_take {hs : List Row} {m : Nat} (h : m ≤ hs.length) : (List.range m).map (getR hs) = hs.take m := by
  apply List.ext_getElem?
  intro i
  by_cases hi : i < m
  · rw [List.getElem?_map, List.getElem?_range hi, List.getElem?_take, if_pos hi, getR_at (by omega)]
    rfl
  · rw [List.getElem?_eq_none (by rw [List.length_map, List.length_range]; omega), List.getElem?_eq_none (by rw [List.length_take]; omega)]
theorem ltrim_loop (step : P → Ev → Rs Out) (F : Vec → Int) (hs : List Row) (E : List Nat → Ev)
    (h : ∀ (m : Nat) (TI : List Nat), m + 1 < hs.length → (∀ i ∈ TI, m + 1 < i ∧ i < hs.length) → TI.length ≤ hs.length → step (.int ((hs.length : Int) - 1 - ((m : Int) + 1))) (E (List.range (m + 1) ++ (m + 1) :: TI)) = .ok (.nx (E (if (getR hs (m + 1)).2 ≤ offF (hs.take (m + 1) ++ TI.map (getR hs)) F (getR hs (m + 1)).1 then List.range (m + 1) ++ TI else List.range (m + 1) ++ (m + 1) :: TI)))) :
    ∀ (m : Nat) (TI : List Nat), m < hs.length → (∀ i ∈ TI, m < i ∧ i < hs.length) → TI.length + m < hs.length →
      ∃ K : List Nat, (∀ i ∈ K, i < hs.length) ∧ K.map (getR hs) = trimF F hs m (TI.map (getR hs)) ∧ forP step (rngL ((hs.length : Int) - 1 - m) m 1) (E (List.range (m + 1) ++ TI)) = .ok (.nx (E K))
  | 0, TI, hm, hT, hl => ⟨List.range 1 ++ TI, fun i hi => by
      rcases List.mem_append.mp hi with hi | hi
      · have := List.mem_range.mp hi; omega
      · exact (hT i hi).2, by rw [List.map_append, range_take (by omega)]; rfl, rfl⟩
  | m + 1, TI, hm, hT, hl => by
    have e1 : (hs.length : Int) - 1 - ((m + 1 : Nat) : Int) = (hs.length : Int) - 1 - ((m : Int) + 1) := by omega
    have e1' : (hs.length : Int) - 1 - ((m : Int) + 1) + 1 = (hs.length : Int) - 1 - m := by omega
    rw [e1, rng_up, e1']
    have e2 : List.range (m + 1 + 1) ++ TI = List.range (m + 1) ++ (m + 1) :: TI := by rw [List.range_succ, List.append_assoc]; rfl
    rw [e2]
    have e3 := h m TI hm hT (by omega)
    have e5 : forP step (.int ((hs.length : Int) - 1 - ((m : Int) + 1)) :: rngL ((hs.length : Int) - 1 - m) m 1) (E (List.range (m + 1) ++ (m + 1) :: TI)) = forP step (rngL ((hs.length : Int) - 1 - m) m 1) (E (if (getR hs (m + 1)).2 ≤ offF (hs.take (m + 1) ++ TI.map (getR hs)) F (getR hs (m + 1)).1 then List.range (m + 1) ++ TI else List.range (m + 1) ++ (m + 1) :: TI)) := by
      show seqO (step _ _) (fun ρ' => forP step (rngL ((hs.length : Int) - 1 - m) m 1) ρ') = _
      rw [e3]
      rfl
    rw [e5]
    have hx := getR_at hm
    have e4 : trimF F hs (m + 1) (TI.map (getR hs)) = if (getR hs (m + 1)).2 ≤ offF (hs.take (m + 1) ++ TI.map (getR hs)) F (getR hs (m + 1)).1 then trimF F hs m (TI.map (getR hs)) else trimF F hs m (getR hs (m + 1) :: TI.map (getR hs)) := by
      show (match hs[m + 1]? with | none => hs.take 1 ++ TI.map (getR hs) | some h => if h.2 ≤ offF (hs.take (m + 1) ++ TI.map (getR hs)) F h.1 then trimF F hs m (TI.map (getR hs)) else trimF F hs m (h :: TI.map (getR hs))) = _
      rw [hx]
    rw [e4]
    by_cases c : (getR hs (m + 1)).2 ≤ offF (hs.take (m + 1) ++ TI.map (getR hs)) F (getR hs (m + 1)).1
    · rw [if_pos c, if_pos c]
      exact ltrim_loop step F hs E h m TI (by omega) (fun i hi => ⟨by have := (hT i hi).1; omega, (hT i hi).2⟩) (by omega)
    · rw [if_neg c, if_neg c]
      exact ltrim_loop step F hs E h m ((m + 1) :: TI) (by omega) (fun i hi => by
        rcases List.mem_cons.mp hi with rfl | hi
        · omega
        · exact ⟨by have := (hT i hi).1; omega, (hT i hi).2⟩) (by simp; omega)
theorem filt_idx (m : Nat) (TI : List Nat) (h : ∀ i ∈ TI, m + 1 < i) : (List.range (m + 1) ++ (m + 1) :: TI).filter (fun (i : Nat) => !decide ((i : Int) = (m : Int) + 1)) = List.range (m + 1) ++ TI := by
  rw [List.filter_append, List.filter_cons_of_neg (by simp)]
  congr 1
  · rw [List.filter_eq_self]
    intro i hi
    have := List.mem_range.mp hi
    simp
    omega
  · rw [List.filter_eq_self]
    intro i hi
    have := h i hi
    simp
    omega
theorem e_ltrim (n : Nat) {a : Tar} {k : Nat} (ha : OkTar k a) : callF D G (n + 3) 43 [tarP a] = .ok (match trimX k a with | .ok p => .tup [.bl false, p] | .exc x => toldE x | .bad => .non) := by
  rw [c__law_trim, w_run]
  obtain ⟨hbox, hin⟩ := box_ok ha
  have hk := ha.kr
  have hr1 := ha.hl
  have hne : 1 ≤ a.1.length := by obtain ⟨r, hr⟩ := ha.h0; rw [hr]; simp
  have ec := e_lcells (n + 1) (boxR k a.1) hbox.sm
  have em := fun h => e_lmost n a.2 (boxR k a.1) k hbox (tar_forms ha) h
  have eo := fun (hs : List Row) (v : Vec) (h1 : KM.okHeads k hs) (h2 : KM.inB v (boxR k a.1)) => e_loff n (.lst (hs.map rowP)) hs v (boxR k a.1) (TT a.2) k hbox (rows_l hs) h1 h2
  generalize callF D G (n + 2) = Γ at ec em eo ⊢
  obtain ⟨hr, hh0⟩ := ha.h0
  have z0 : atL (a.1.map rowP) 0 = .ok (.tup [vP (zV k), .int 0]) := by rw [hh0]; exact at_0 _ _
  simp [i__law_trim, PL.start, tar_0, rowsP, z0]
  generalize hst : lSt _ _ _ _ _ = step
  have e := (forP_foldR step rowP (fun (b : Vec) => [.fz (tarP a), .fz (.tup (a.1.map rowP)), .fz (vP b), .un, .un, .un, .un, .un, .un, .un]) (fun b h => List.zipWith max b h.1) (fun l b => b.length = k ∧ ∀ r ∈ l, r ∈ a.1) a.1 (zV k) ⟨by simp, fun _ h => h⟩ (fun r l b ⟨j1, j2⟩ => by
    have hr := row_ok (ha.hs r (j2 r List.mem_cons_self))
    refine ⟨?_, zip_max j1 hr.1, fun r hr => j2 r (List.mem_cons_of_mem _ hr)⟩
    have hrg : rngOk (b.length : Int) = true := rng_ok (by omega) (by omega)
    have hrg2 : (b.length : Int) ≤ 16777216 := by omega
    rw [← hst]
    simp [rowP, vP, hrg, hrg2, rngL_one]
    rw [compP_map (inj := fun (i : Nat) => P.int (i : Int)) (g := fun i => .int (max (b.getD i 0) (r.1.getD i 0))) (l := List.range b.length) _ (fun i hi => by
      have hi := List.mem_range.mp hi
      have h1 := at_nat P.int (getD_at hi)
      have h2 := at_nat P.int (getD_at (a := r.1) (i := i) (by omega))
      simp [h1, h2])]
    rw [range_zip max (j1.trans hr.1.symm)]
    simp)).1
  rw [e]
  have hbx : a.1.foldl (fun b h => List.zipWith max b h.1) (zV k) = boxR k a.1 := rfl
  rw [hbx]
  unfold trimX
  clear e hst step
  by_cases hbig : 2000 < prodB (boxR k a.1)
  · simp [ec, hbig, toldE]
  · have em' : Γ 34 [.tup (a.2.map rowP), vP (boxR k a.1)] = _ := em hbig
    have hrg : rngOk (a.1.length : Int) = true := rng_ok (by omega) (by omega)
    have hb1 : (a.1.length : Int) ≤ 16777216 := by omega
    have hrg' : rngOk ((a.1.length : Int) - 1) = true := rng_ok (by omega) (by omega)
    have hb1' : (a.1.length : Int) - 1 ≤ 16777216 := by omega
    have hcast : (((a.1.length : Int) - 1)).toNat = a.1.length - 1 := by omega
    simp [ec, hbig, tar_1, rowsP, em', hrg, hb1, hrg', hb1', hcast, rngL_one]
    rw [← rngL_one]
    generalize hst : lSt _ _ _ _ _ = step
    obtain ⟨K, K1, K2, K3⟩ := ltrim_loop step (TT a.2) a.1 (fun L => [.fz (tarP a), .fz (.tup (a.1.map rowP)), .fz (vP (boxR k a.1)), .un, .fz (mostP a.2 (boxR k a.1)), .fz (.lst (L.map fun (i : Nat) => .int (i : Int))), .un, .un, .un, .un]) (fun m TI hm hTI hTl => by
      have ex := getR_at hm
      generalize hx : getR a.1 (m + 1) = x at ex
      have hmem := List.mem_of_getElem? ex
      have ex0 : atL (a.1.map rowP) ((m : Int) + 1) = .ok (rowP x) := at_nat rowP ex
      have hall : ∀ i ∈ List.range (m + 1) ++ TI, i < a.1.length := fun i hi => by
        rcases List.mem_append.mp hi with hi | hi
        · have := List.mem_range.mp hi; omega
        · exact (hTI i hi).2
      have hmp : (List.range (m + 1) ++ TI).map (getR a.1) = a.1.take (m + 1) ++ TI.map (getR a.1) := by rw [List.map_append, range_take (by omega)]
      have hsub : ∀ t ∈ a.1.take (m + 1) ++ TI.map (getR a.1), t ∈ a.1 := fun t ht => by
        rw [← hmp] at ht
        obtain ⟨i, hi, rfl⟩ := List.mem_map.mp ht
        exact List.mem_of_getElem? (getR_at (hall i hi))
      have eo' := eo (a.1.take (m + 1) ++ TI.map (getR a.1)) x.1 (fun r hr => tar_heads ha r (hsub r hr)) (hin x hmem)
      have hat : (a.1.length : Int) - 1 - ((a.1.length : Int) - 1 - ((m : Int) + 1)) = (m : Int) + 1 := by omega
      have r0 : subP (rowP x) (.int 0) = .ok (vP x.1) := rfl
      have r1 : subP (rowP x) (.int 1) = .ok (.int x.2) := rfl
      rw [← hst]
      generalize hL1 : List.range (m + 1) ++ (m + 1) :: TI = L1
      have hf : L1.filter (fun (i : Nat) => !decide ((i : Int) = (m : Int) + 1)) = List.range (m + 1) ++ TI := by rw [← hL1]; exact filt_idx m TI fun i hi => (hTI i hi).1
      simp only [lSt_x, bindT_v, List.length_cons, List.length_nil]
      simp [hat]
      rw [compP_filter (inj := fun (i : Nat) => P.int (i : Int)) (g := fun (i : Nat) => P.int (i : Int)) (q := fun (i : Nat) => !decide ((i : Int) = (m : Int) + 1)) (l := L1) _ (fun i hi => by
        by_cases h : (i : Int) = (m : Int) + 1 <;> simp [h])]
      rw [hf]
      generalize hL2 : List.range (m + 1) ++ TI = L2 at hmp hall ⊢
      simp [ex0, r0, r1]
      rw [compP_map (inj := fun (i : Nat) => P.int (i : Int)) (g := fun (i : Nat) => rowP (getR a.1 i)) (l := L2) _ (fun i hi => by
        have := at_nat rowP (getR_at (hall i hi))
        simp [this])]
      have hmp2 : L2.map (fun i => rowP (getR a.1 i)) = (a.1.take (m + 1) ++ TI.map (getR a.1)).map rowP := by rw [← hmp, List.map_map]; rfl
      have eo'' : Γ 35 [.lst ((a.1.take (m + 1) ++ TI.map (getR a.1)).map rowP), mostP a.2 (boxR k a.1), vP x.1] = _ := eo'
      generalize (a.1.take (m + 1) ++ TI.map (getR a.1)).map rowP = Y at hmp2 eo''
      generalize offF (a.1.take (m + 1) ++ TI.map (getR a.1)) (TT a.2) x.1 = z at eo'' ⊢
      rw [hmp2]
      by_cases c : x.2 ≤ z
      · simp [ex0, r0, r1, eo'', c]
      · simp [ex0, r0, r1, eo'', c]) (a.1.length - 1) [] (by omega) (fun t ht => by cases ht) (by simp; omega)
    have et0 : List.range (a.1.length - 1 + 1) ++ [] = List.range a.1.length := by rw [List.append_nil, Nat.sub_add_cancel hne]
    have ez : (a.1.length : Int) - 1 - ((a.1.length - 1 : Nat) : Int) = 0 := by omega
    rw [et0, ez] at K3
    rw [K3]
    simp
    rw [compP_map (inj := fun (i : Nat) => P.int (i : Int)) (g := fun (i : Nat) => rowP (getR a.1 i)) (l := K) _ (fun i hi => by
      have := at_nat rowP (getR_at (K1 i hi))
      simp [this])]
    have K2' : K.map (fun i => rowP (getR a.1 i)) = (trimF (TT a.2) a.1 (a.1.length - 1) []).map rowP := by
      have : (TI : List Nat) → TI = [] → K.map (getR a.1) = trimF (TT a.2) a.1 (a.1.length - 1) [] := fun _ _ => K2
      rw [← this [] rfl, List.map_map]
      rfl
    rw [K2']
    simp [tar_1]
    rfl
theorem prodB_le : ∀ {a b : Vec}, a.length = b.length → nonneg a → leV a b = true → prodB a ≤ prodB b
  | [], [], _, _, _ => Int.le_refl _
  | x :: a, y :: b, h, hn, hle => by
    have h1 : decide (x ≤ y) = true ∧ leV a b = true := by
      have : (decide (x ≤ y) && leV a b) = true := hle
      rwa [Bool.and_eq_true] at this
    have hx := hn x List.mem_cons_self
    have hxy := of_decide_eq_true h1.1
    have ih := prodB_le (by simpa using h) (fun z hz => hn z (List.mem_cons_of_mem _ hz)) h1.2
    have hp := KM.prodB_pos (box := a) fun z hz => hn z (List.mem_cons_of_mem _ hz)
    show (x + 1) * prodB a ≤ (y + 1) * prodB b
    exact Int.mul_le_mul (by omega) ih (by omega) (by omega)
theorem row_box {k : Nat} (hk : k ≤ 4) {r : Row} (h : rowB k 1000 0 100000000 r = true) : OkBox k r.1 := by
  obtain ⟨h1, h2, h3, h4, h5⟩ := row_ok h
  exact ⟨h1, fun x hx => ⟨h2 x hx, by have := h5 x hx; omega⟩, hk⟩
theorem e_lneeded (n : Nat) {t : Tar} {k : Nat} (ht : OkTar k t) (hbig : ∀ r ∈ t.1, ¬ 2000 < prodB r.1) (hneed : ∀ i, ∀ h, t.1[i + 1]? = some h → offF (t.1.take (i + 1) ++ t.1.drop (i + 1 + 1)) (TT t.2) h.1 < h.2) : callF D G (n + 3) 44 [tarP t] = .ok (.bl true) := by
  rw [c__law_needed, w_run]
  have em := fun (box : Vec) (hb : OkBox k box) h => e_lmost n t.2 box k hb (tar_forms ht) h
  have eo := fun (hs : List Row) (v : Vec) (hb : OkBox k v) (h1 : KM.okHeads k hs) => e_loff n (rowsP hs) hs v v (TT t.2) k hb (rows_t hs) h1 (in_self hb)
  generalize callF D G (n + 2) = Γ at em eo ⊢
  have hr1 := ht.hl
  have hne : 1 ≤ t.1.length := by obtain ⟨r, hr⟩ := ht.h0; rw [hr]; simp
  have hrg1 : rngOk (1 : Int) = true := rng_ok (by omega) (by omega)
  have hrg : rngOk (t.1.length : Int) = true := rng_ok (by omega) (by omega)
  have hb1 : (t.1.length : Int) - 1 ≤ 16777216 := by omega
  have hcast : (((t.1.length : Int) - 1)).toNat = t.1.length - 1 := by omega
  have hrl : rngL 1 (t.1.length - 1) 1 = (List.range (t.1.length - 1)).map fun (i : Nat) => P.int ((i : Int) + 1) := by
    unfold rngL
    apply List.map_congr_left
    intro i _
    rw [Int.mul_one, Int.add_comm]
  simp [i__law_needed, PL.start, tar_0, len_rows, hrg1, hrg, hb1, hcast, hrl]
  generalize hst : lSt _ _ _ _ _ = step
  have e := (forP_fold step (fun (i : Nat) => P.int ((i : Int) + 1)) (fun _ : Unit => [.fz (tarP t), .un, .un, .un]) (fun s _ => s) (fun _ => True) (List.range (t.1.length - 1)) () trivial (fun i hi _ _ => ⟨by
    have hi := List.mem_range.mp hi
    have ex := getR_at (hs := t.1) (i := i + 1) (by omega)
    generalize getR t.1 (i + 1) = x at ex
    have hmem := List.mem_of_getElem? ex
    have hlt := hneed i x ex
    have ex0 : atL (t.1.map rowP) ((i : Int) + 1) = .ok (rowP x) := at_nat rowP ex
    have s1 : slcP none (some ((i : Int) + 1)) (rowsP t.1) = .ok (rowsP (t.1.take (i + 1))) := by
      have := slc_pre (t.1.map rowP) (i + 1)
      rw [← List.map_take] at this
      exact this
    have s2 : slcP (some ((i : Int) + 1 + 1)) none (rowsP t.1) = .ok (rowsP (t.1.drop (i + 1 + 1))) := by
      have := slc_suf (t.1.map rowP) (i + 1 + 1)
      rw [← List.map_drop] at this
      exact this
    have s3 : binP .add (rowsP (t.1.take (i + 1))) (rowsP (t.1.drop (i + 1 + 1))) = .ok (rowsP (t.1.take (i + 1) ++ t.1.drop (i + 1 + 1))) := add_rows _ _ (by rw [List.length_take, List.length_drop]; omega)
    have hbx := row_box ht.kr.2 (ht.hs x hmem)
    have em' := em x.1 hbx (hbig x hmem)
    have eo' : Γ 35 [rowsP (t.1.take (i + 1) ++ t.1.drop (i + 1 + 1)), mostP t.2 x.1, vP x.1] = _ := eo (t.1.take (i + 1) ++ t.1.drop (i + 1 + 1)) x.1 hbx (fun r hr => tar_heads ht r (by
      rcases List.mem_append.mp hr with hr | hr
      · exact List.mem_of_mem_take hr
      · exact List.mem_of_mem_drop hr))
    have c : ¬ x.2 ≤ offF (t.1.take (i + 1) ++ t.1.drop (i + 1 + 1)) (TT t.2) x.1 := by omega
    generalize t.1.take (i + 1) ++ t.1.drop (i + 1 + 1) = L at s3 eo' c
    have ex1 : subP (rowsP t.1) (.int ((i : Int) + 1)) = .ok (rowP x) := ex0
    have r0 : subP (rowP x) (.int 0) = .ok (vP x.1) := rfl
    have r1 : subP (rowP x) (.int 1) = .ok (.int x.2) := rfl
    rw [← hst]
    simp [tar_0, tar_1, ex1, s1, s2, s3, r0, r1, em', eo', c], trivial⟩)).1
  rw [e]
  simp
end K50
end

section
set_option Elab.async false
set_option linter.all false
set_option maxRecDepth 100000
set_option maxHeartbeats 2000000
/-! K50P16: the algebra of offs. -/
namespace K50
open PL
open KM (Vec Row addV subV leV members placeV prodB ext1 nonneg offF TT)
theorem off_mono {x y : List Row} (F : Vec → Int) (v : Vec) (h : ∀ r ∈ x, r ∈ y) : offF x F v ≤ offF y F v :=
  KM.off_ub (KM.off_pos y F v) fun r hr c => KM.off_le (h r hr) c
theorem off_append (x y : List Row) (F : Vec → Int) (v : Vec) : offF (x ++ y) F v = max (offF x F v) (offF y F v) := by
  have h1 : offF (x ++ y) F v ≤ max (offF x F v) (offF y F v) := KM.off_ub (by have := KM.off_pos x F v; omega) fun r hr c => by
    rcases List.mem_append.mp hr with hr | hr
    · have := KM.off_le (F := F) hr c; omega
    · have := KM.off_le (F := F) hr c; omega
  have h2 := off_mono (x := x) (y := x ++ y) F v fun r hr => List.mem_append_left _ hr
  have h3 := off_mono (x := y) (y := x ++ y) F v fun r hr => List.mem_append_right _ hr
  omega
theorem le_zero {k : Nat} {v : Vec} (hv : KM.okV k v) : leV (zV k) v = true := (KM.leV_iff (by simp [hv.1])).mpr fun i x y hx hy => by
  have h1 := (List.mem_replicate.mp (List.mem_of_getElem? hx)).2
  have h2 := hv.2 y (List.mem_of_getElem? hy)
  omega
theorem sub_zero {k : Nat} {v : Vec} (hv : KM.okV k v) : subV v (zV k) = v := KM.vec_ext ((KM.subV_len (by simp [hv.1])) ) fun i x y hx hy => by
  obtain ⟨p, q, h1, h2, rfl⟩ := KM.subV_at hx
  rw [hy] at h1
  cases h1
  have h1 := (List.mem_replicate.mp (List.mem_of_getElem? h2)).2
  omega
/-- some head gives the off -/
theorem off_ex {k : Nat} {t : Tar} (ht : OkTar k t) {v : Vec} (hv : KM.okV k v) : ∃ r ∈ t.1, leV r.1 v = true ∧ offF t.1 (TT t.2) v = r.2 + TT t.2 (subV v r.1) := by
  rcases KM.off_is t.1 (TT t.2) v with h | ⟨r, hr, c, e⟩
  · obtain ⟨rest, h0⟩ := ht.h0
    have hm : (zV k, (0 : Int)) ∈ t.1 := by rw [h0]; exact List.mem_cons_self
    refine ⟨_, hm, le_zero hv, ?_⟩
    have h1 := KM.off_le (F := TT t.2) hm (le_zero hv)
    have h2 := KM.TT_pos (tar_forms ht) hv
    rw [show (zV k, (0 : Int)).1 = zV k from rfl, sub_zero hv] at h1 ⊢
    show _ = 0 + _
    have h1' : 0 + TT t.2 v ≤ offF t.1 (TT t.2) v := h1
    omega
  · exact ⟨r, hr, c, e⟩
theorem off_better {k : Nat} {a b : Tar} (ha : OkTar k a) (hb : OkTar k b) (he : a.2 = b.2) {v : Vec} (hv : KM.okV k v) : offF (a.1 ++ b.1.tail) (TT a.2) v = max (offF a.1 (TT a.2) v) (offF b.1 (TT b.2) v) := by
  rw [off_append, ← he]
  obtain ⟨r, hr⟩ := hb.h0
  obtain ⟨s, hs⟩ := ha.h0
  have h1 : offF b.1.tail (TT a.2) v ≤ offF b.1 (TT a.2) v := off_mono _ _ fun x hx => List.mem_of_mem_tail hx
  have h2 : offF b.1 (TT a.2) v ≤ max (offF a.1 (TT a.2) v) (offF b.1.tail (TT a.2) v) := KM.off_ub (by have := KM.off_pos a.1 (TT a.2) v; omega) fun x hx c => by
    rw [hr] at hx
    rcases List.mem_cons.mp hx with rfl | hx
    · have := KM.off_le (F := TT a.2) (rows := a.1) (v := v) (r := (List.replicate k 0, 0)) (by rw [hs]; exact List.mem_cons_self) c
      omega
    · have := KM.off_le (F := TT a.2) (rows := b.1.tail) (v := v) (r := x) (by rw [hr]; exact hx) c
      omega
  omega
/-- the most over all splits -/
def splitF (a b : Tar) (v : Vec) : Int := (members v).foldl (fun m p => max m (offF a.1 (TT a.2) p + offF b.1 (TT b.2) (subV v p))) 0
theorem fold_max (f : Vec → Int) : ∀ (l : List Vec) (m : Int), m ≤ l.foldl (fun m p => max m (f p)) m ∧ (∀ p ∈ l, f p ≤ l.foldl (fun m p => max m (f p)) m) ∧ (l.foldl (fun m p => max m (f p)) m = m ∨ ∃ p ∈ l, l.foldl (fun m p => max m (f p)) m = f p)
  | [], m => ⟨Int.le_refl _, fun p hp => (by cases hp), .inl rfl⟩
  | x :: l, m => by
    obtain ⟨h1, h2, h3⟩ := fold_max f l (max m (f x))
    rw [List.foldl_cons]
    refine ⟨by omega, fun p hp => ?_, ?_⟩
    · rcases List.mem_cons.mp hp with rfl | hp
      · omega
      · exact h2 p hp
    · rcases h3 with h3 | ⟨p, hp, h3⟩
      · by_cases c : m ≤ f x
        · exact .inr ⟨x, List.mem_cons_self, by omega⟩
        · exact .inl (by omega)
      · exact .inr ⟨p, List.mem_cons_of_mem _ hp, h3⟩
theorem in_members {k : Nat} {v p : Vec} (hv : KM.okV k v) (hp : KM.okV k p) (h : leV p v = true) : p ∈ members v := by
  obtain ⟨_, e⟩ := KM.members_at v hv.2 p ⟨hp.1.trans hv.1.symm, hp.2, h⟩
  exact List.mem_of_getElem? e
theorem off_apart {k : Nat} {a b : Tar} (ha : OkTar k a) (hb : OkTar k b) {v : Vec} (hv : KM.okV k v) : offF (prodR a.1 b.1) (TT (a.2 ++ b.2)) v = splitF a b v := by
  have og : KM.okForms k (a.2 ++ b.2) := fun r hr => by
    rcases List.mem_append.mp hr with hr | hr
    · exact tar_forms ha r hr
    · exact tar_forms hb r hr
  obtain ⟨m1, m2, m3⟩ := fold_max (fun p => offF a.1 (TT a.2) p + offF b.1 (TT b.2) (subV v p)) (members v) 0
  have h1 : offF (prodR a.1 b.1) (TT (a.2 ++ b.2)) v ≤ splitF a b v := KM.off_ub m1 fun r hr c => by
    obtain ⟨r1, r2, r3⟩ := prod_rows ha hb r hr
    obtain ⟨x, hx, hr'⟩ := List.mem_flatMap.mp hr
    obtain ⟨y, hy, rfl⟩ := List.mem_map.mp hr'
    obtain ⟨x1, x2, x3⟩ := tar_heads ha x hx
    obtain ⟨y1, y2, y3⟩ := tar_heads hb y hy
    have hw : KM.okV k (subV v (addV x.1 y.1)) := ⟨(KM.subV_len (hv.1.trans r1.symm)).trans hv.1, KM.sub_nonneg (hv.1.trans r1.symm) c⟩
    obtain ⟨p, q, hp, hq, e, ht⟩ := KM.TT_split (tar_forms ha) (tar_forms hb) og (fun r hr => List.mem_append.mp hr) _ _ (Nat.lt_succ_self _) hw
    have hpart : KM.okV k (addV x.1 p) := ⟨(KM.addV_len (x1.trans hp.1.symm)).trans x1, KM.add_nonneg x2 hp.2⟩
    have hoth : KM.okV k (addV y.1 q) := ⟨(KM.addV_len (y1.trans hq.1.symm)).trans y1, KM.add_nonneg y2 hq.2⟩
    have hsum : addV (addV x.1 p) (addV y.1 q) = v := by
      have := KM.sub_add (a := v) (b := addV x.1 y.1) (hv.1.trans r1.symm)
      rw [← this, ← e]
      refine KM.vec_ext ?_ fun i s t hs ht => ?_
      · rw [KM.addV_len (hpart.1.trans hoth.1.symm), hpart.1, KM.addV_len ((KM.addV_len (hp.1.trans hq.1.symm)).trans (hp.1.trans r1.symm)), KM.addV_len (hp.1.trans hq.1.symm), hp.1]
      · obtain ⟨s1, s2, a1, a2, rfl⟩ := KM.addV_at hs
        obtain ⟨t1, t2, b1, b2, rfl⟩ := KM.addV_at ht
        obtain ⟨u1, u2, c1, c2, rfl⟩ := KM.addV_at a1
        obtain ⟨w1, w2, d1, d2, rfl⟩ := KM.addV_at a2
        obtain ⟨u1', u2', c1', c2', rfl⟩ := KM.addV_at b1
        obtain ⟨w1', w2', d1', d2', rfl⟩ := KM.addV_at b2
        rw [c1] at d1'
        rw [c2] at c1'
        rw [d1] at d2'
        rw [d2] at c2'
        cases d1'; cases c1'; cases d2'; cases c2'
        omega
    have hle : leV (addV x.1 p) v = true := by
      have h := KM.le_add (a := addV x.1 p) (b := addV y.1 q) (hpart.1.trans hoth.1.symm) hoth.2
      rwa [hsum] at h
    have hsub : subV v (addV x.1 p) = addV y.1 q := by
      rw [← hsum]
      refine KM.vec_ext ?_ fun i s t hs ht => ?_
      · rw [KM.subV_len ((KM.addV_len (hpart.1.trans hoth.1.symm)))]
        rw [KM.addV_len (hpart.1.trans hoth.1.symm), hpart.1, hoth.1]
      · obtain ⟨s1, s2, a1, a2, rfl⟩ := KM.subV_at hs
        obtain ⟨t1, t2, b1, b2, rfl⟩ := KM.addV_at a1
        rw [a2] at b1; rw [ht] at b2
        cases b1; cases b2
        omega
    have hmem := m2 _ (in_members hv hpart hle)
    have hsubx : ∀ (x p : Vec), x.length = k → p.length = k → subV (addV x p) x = p := fun x p h1 h2 => by
      refine KM.vec_ext ?_ fun i s t hs ht => ?_
      · rw [KM.subV_len (KM.addV_len (h1.trans h2.symm)), KM.addV_len (h1.trans h2.symm), h1, h2]
      · obtain ⟨s1, s2, a1, a2, rfl⟩ := KM.subV_at hs
        obtain ⟨t1, t2, b1, b2, rfl⟩ := KM.addV_at a1
        rw [a2] at b1; rw [ht] at b2
        cases b1; cases b2
        omega
    have k1 := KM.off_le (F := TT a.2) (v := addV x.1 p) hx (KM.le_add (x1.trans hp.1.symm) hp.2)
    have k2 := KM.off_le (F := TT b.2) (v := addV y.1 q) hy (KM.le_add (y1.trans hq.1.symm) hq.2)
    rw [hsubx x.1 p x1 hp.1] at k1
    rw [hsubx y.1 q y1 hq.1] at k2
    rw [hsub] at hmem
    show x.2 + y.2 + TT (a.2 ++ b.2) (subV v (addV x.1 y.1)) ≤ splitF a b v
    have : offF a.1 (TT a.2) (addV x.1 p) + offF b.1 (TT b.2) (addV y.1 q) ≤ splitF a b v := hmem
    omega
  have h2 : splitF a b v ≤ offF (prodR a.1 b.1) (TT (a.2 ++ b.2)) v := by
    rcases m3 with h | ⟨p, hp, h⟩
    · show (members v).foldl _ 0 ≤ _
      rw [h]
      exact KM.off_pos _ _ _
    · show (members v).foldl _ 0 ≤ _
      rw [h]
      have hin := KM.members_in v p hp
      have hpv : KM.okV k p := ⟨hin.1.trans hv.1, hin.2.1⟩
      have hq : KM.okV k (subV v p) := ⟨(KM.subV_len hin.1.symm).trans hv.1, KM.sub_nonneg hin.1.symm hin.2.2⟩
      obtain ⟨x, hx, cx, ex⟩ := off_ex ha hpv
      obtain ⟨y, hy, cy, ey⟩ := off_ex hb hq
      obtain ⟨x1, x2, x3⟩ := tar_heads ha x hx
      obtain ⟨y1, y2, y3⟩ := tar_heads hb y hy
      have hxy : (addV x.1 y.1).length = k := (KM.addV_len (x1.trans y1.symm)).trans x1
      have hpx : KM.okV k (subV p x.1) := ⟨(KM.subV_len (hpv.1.trans x1.symm)).trans hpv.1, KM.sub_nonneg (hpv.1.trans x1.symm) cx⟩
      have hqy : KM.okV k (subV (subV v p) y.1) := ⟨(KM.subV_len (hq.1.trans y1.symm)).trans hq.1, KM.sub_nonneg (hq.1.trans y1.symm) cy⟩
      have hadd := KM.TT_add (tar_forms ha) (tar_forms hb) og (fun r hr => List.mem_append_left _ hr) (fun r hr => List.mem_append_right _ hr) hpx hqy
      have hm : (addV x.1 y.1, x.2 + y.2) ∈ prodR a.1 b.1 := List.mem_flatMap.mpr ⟨x, hx, List.mem_map.mpr ⟨y, hy, rfl⟩⟩
      have hle : leV (addV x.1 y.1) v = true := (KM.leV_iff (hxy.trans hv.1.symm)).mpr fun i s t hs ht => by
        obtain ⟨s1, s2, a1, a2, rfl⟩ := KM.addV_at hs
        have hpi : ∃ z, p[i]? = some z := ⟨p[i]'(by rw [hpv.1, ← hv.1]; exact (List.getElem?_eq_some_iff.mp ht).1), List.getElem?_eq_getElem _⟩
        obtain ⟨z, hz⟩ := hpi
        have c1 := (KM.leV_iff (x1.trans hpv.1.symm)).mp cx i s1 z a1 hz
        have c2 := (KM.leV_iff (y1.trans hq.1.symm)).mp cy i s2 (t - z) a2 (KM.sub_at ht hz)
        omega
      have hoff := KM.off_le (F := TT (a.2 ++ b.2)) hm hle
      have heq : subV v (addV x.1 y.1) = addV (subV p x.1) (subV (subV v p) y.1) := by
        refine KM.vec_ext ?_ fun i s t hs ht => ?_
        · rw [KM.subV_len (hv.1.trans hxy.symm), hv.1, KM.addV_len (hpx.1.trans hqy.1.symm), hpx.1]
        · obtain ⟨s1, s2, a1, a2, rfl⟩ := KM.subV_at hs
          obtain ⟨t1, t2, b1, b2, rfl⟩ := KM.addV_at ht
          obtain ⟨u1, u2, c1, c2, rfl⟩ := KM.addV_at a2
          obtain ⟨w1, w2, d1, d2, rfl⟩ := KM.subV_at b1
          obtain ⟨w1', w2', d1', d2', rfl⟩ := KM.subV_at b2
          obtain ⟨z1, z2, g1, g2, rfl⟩ := KM.subV_at d1'
          rw [a1] at g1; rw [c1] at d2; rw [c2] at d2'; rw [d1] at g2
          cases g1; cases d2; cases d2'; cases g2
          omega
      rw [← heq] at hadd
      have hoff' : x.2 + y.2 + TT (a.2 ++ b.2) (subV v (addV x.1 y.1)) ≤ offF (prodR a.1 b.1) (TT (a.2 ++ b.2)) v := hoff
      show offF a.1 (TT a.2) p + offF b.1 (TT b.2) (subV v p) ≤ _
      rw [ex, ey]
      omega
  omega
/-! trim -/
theorem off_exL {k : Nat} {fs : List Row} (ok : KM.okForms k fs) {L : List Row} (hz : (zV k, (0 : Int)) ∈ L) {v : Vec} (hv : KM.okV k v) : ∃ r ∈ L, leV r.1 v = true ∧ offF L (TT fs) v = r.2 + TT fs (subV v r.1) := by
  rcases KM.off_is L (TT fs) v with h | ⟨r, hr, c, e⟩
  · refine ⟨_, hz, le_zero hv, ?_⟩
    have h1 := KM.off_le (F := TT fs) hz (le_zero hv)
    have h2 := KM.TT_pos ok hv
    rw [show (zV k, (0 : Int)).1 = zV k from rfl, sub_zero hv] at h1 ⊢
    show _ = 0 + _
    have h1' : 0 + TT fs v ≤ offF L (TT fs) v := h1
    omega
  · exact ⟨r, hr, c, e⟩
theorem off_drop {k : Nat} {fs : List Row} (ok : KM.okForms k fs) {L : List Row} (hL : KM.okHeads k L) (hz : (zV k, (0 : Int)) ∈ L) {x : Row} (hx : KM.okHead k x) (h : x.2 ≤ offF L (TT fs) x.1) {v : Vec} (hv : KM.okV k v) (c : leV x.1 v = true) : x.2 + TT fs (subV v x.1) ≤ offF L (TT fs) v := by
  obtain ⟨x1, x2, x3⟩ := hx
  have hw : KM.okV k (subV v x.1) := ⟨(KM.subV_len (hv.1.trans x1.symm)).trans hv.1, KM.sub_nonneg (hv.1.trans x1.symm) c⟩
  obtain ⟨r, hr, cr, e⟩ := off_exL ok hz ⟨x1, x2⟩
  obtain ⟨r1, r2, r3⟩ := hL r hr
  have hxr : KM.okV k (subV x.1 r.1) := ⟨(KM.subV_len (x1.trans r1.symm)).trans x1, KM.sub_nonneg (x1.trans r1.symm) cr⟩
  have hadd := KM.TT_add ok ok ok (fun r hr => hr) (fun r hr => hr) hxr hw
  have hrv : leV r.1 v = true := KM.leV_trans (r1.trans x1.symm) (x1.trans hv.1.symm) cr c
  have hoff := KM.off_le (F := TT fs) hr hrv
  have heq : addV (subV x.1 r.1) (subV v x.1) = subV v r.1 := by
    refine KM.vec_ext ?_ fun i s t hs ht => ?_
    · rw [KM.addV_len (hxr.1.trans hw.1.symm), hxr.1, KM.subV_len (hv.1.trans r1.symm), hv.1]
    · obtain ⟨s1, s2, a1, a2, rfl⟩ := KM.addV_at hs
      obtain ⟨t1, t2, b1, b2, rfl⟩ := KM.subV_at ht
      obtain ⟨u1, u2, c1, c2, rfl⟩ := KM.subV_at a1
      obtain ⟨w1, w2, d1, d2, rfl⟩ := KM.subV_at a2
      rw [c1] at d2; rw [b2] at c2; rw [b1] at d1
      cases d2; cases c2; cases d1
      omega
  rw [heq] at hadd
  omega
theorem trimF_succ {F : Vec → Int} {hs : List Row} {m : Nat} {T : List Row} {x : Row} (hx : hs[m + 1]? = some x) : trimF F hs (m + 1) T = if x.2 ≤ offF (hs.take (m + 1) ++ T) F x.1 then trimF F hs m T else trimF F hs m (x :: T) := by
  show (match hs[m + 1]? with | none => hs.take 1 ++ T | some h => if h.2 ≤ offF (hs.take (m + 1) ++ T) F h.1 then trimF F hs m T else trimF F hs m (h :: T)) = _
  rw [hx]
theorem trim_off {k : Nat} {fs : List Row} (ok : KM.okForms k fs) {hs : List Row} (hh : KM.okHeads k hs) {r0 : List Row} (h0 : hs = (zV k, 0) :: r0) {v : Vec} (hv : KM.okV k v) : ∀ (m : Nat) (T : List Row), m < hs.length → KM.okHeads k T → offF (trimF (TT fs) hs m T) (TT fs) v = offF (hs.take (m + 1) ++ T) (TT fs) v
  | 0, T, _, _ => rfl
  | m + 1, T, hm, hT => by
    have hx : hs[m + 1]? = some hs[m + 1] := List.getElem?_eq_getElem hm
    have hxo := hh _ (List.getElem_mem hm)
    rw [trimF_succ hx]
    have e2 : hs.take (m + 1 + 1) ++ T = hs.take (m + 1) ++ hs[m + 1] :: T := by rw [take_succ' hx, List.append_assoc]; rfl
    rw [e2]
    generalize hs[m + 1] = x at hx hxo ⊢
    by_cases c : x.2 ≤ offF (hs.take (m + 1) ++ T) (TT fs) x.1
    · rw [if_pos c, trim_off ok hh h0 hv m T (by omega) hT]
      have hL : KM.okHeads k (hs.take (m + 1) ++ T) := fun r hr => by
        rcases List.mem_append.mp hr with hr | hr
        · exact hh r (List.mem_of_mem_take hr)
        · exact hT r hr
      have hz : (zV k, (0 : Int)) ∈ hs.take (m + 1) ++ T := by rw [h0, List.take_succ_cons]; exact List.mem_cons_self
      have a1 : offF (hs.take (m + 1) ++ T) (TT fs) v ≤ offF (hs.take (m + 1) ++ x :: T) (TT fs) v := off_mono _ _ fun r hr => by
        rcases List.mem_append.mp hr with hr | hr
        · exact List.mem_append_left _ hr
        · exact List.mem_append_right _ (List.mem_cons_of_mem _ hr)
      have a2 : offF (hs.take (m + 1) ++ x :: T) (TT fs) v ≤ offF (hs.take (m + 1) ++ T) (TT fs) v := KM.off_ub (KM.off_pos _ _ _) fun r hr cr => by
        rcases List.mem_append.mp hr with hr | hr
        · exact KM.off_le (List.mem_append_left _ hr) cr
        · rcases List.mem_cons.mp hr with rfl | hr
          · exact off_drop ok hL hz hxo c hv cr
          · exact KM.off_le (List.mem_append_right _ hr) cr
      omega
    · rw [if_neg c]
      exact trim_off ok hh h0 hv m (x :: T) (by omega) fun r hr => by
        rcases List.mem_cons.mp hr with rfl | hr
        · exact hxo
        · exact hT r hr
theorem trim_need {F : Vec → Int} {hs : List Row} : ∀ (m : Nat) (T : List Row), m < hs.length → (∀ A x B, T = A ++ x :: B → offF (hs.take (m + 1) ++ (A ++ B)) F x.1 < x.2) →
    ∀ A x B, A ≠ [] → trimF F hs m T = A ++ x :: B → offF (A ++ B) F x.1 < x.2
  | 0, T, hm, h, A, x, B, hA, e => by
    have e' : hs.take 1 ++ T = A ++ x :: B := e
    obtain ⟨h0, r0, rfl⟩ : ∃ h0 r0, hs = h0 :: r0 := by
      cases hs with
      | nil => cases hm
      | cons a b => exact ⟨a, b, rfl⟩
    cases A with
    | nil => exact absurd rfl hA
    | cons a A =>
      rw [List.take_succ_cons, List.take_zero, List.cons_append, List.nil_append, List.cons_append] at e'
      obtain ⟨rfl, e2⟩ := List.cons_eq_cons.mp e'
      have := h A x B e2
      rw [List.take_succ_cons, List.take_zero] at this
      exact this
  | m + 1, T, hm, h, A, x, B, hA, e => by
    have hx : hs[m + 1]? = some hs[m + 1] := List.getElem?_eq_getElem hm
    rw [trimF_succ hx] at e
    have et := take_succ' hx
    generalize hs[m + 1] = y at hx e et
    by_cases c : y.2 ≤ offF (hs.take (m + 1) ++ T) F y.1
    · rw [if_pos c] at e
      refine trim_need m T (by omega) (fun A x B hT => ?_) A x B hA e
      have h1 := h A x B hT
      have h2 : offF (hs.take (m + 1) ++ (A ++ B)) F x.1 ≤ offF (hs.take (m + 1 + 1) ++ (A ++ B)) F x.1 := off_mono _ _ fun r hr => by
        rw [et]
        rcases List.mem_append.mp hr with hr | hr
        · exact List.mem_append_left _ (List.mem_append_left _ hr)
        · exact List.mem_append_right _ hr
      omega
    · rw [if_neg c] at e
      refine trim_need m (y :: T) (by omega) (fun A x B hT => ?_) A x B hA e
      cases A with
      | nil =>
        rw [List.nil_append] at hT
        obtain ⟨rfl, rfl⟩ := List.cons_eq_cons.mp hT
        rw [List.nil_append]
        omega
      | cons a A =>
        rw [List.cons_append] at hT
        obtain ⟨rfl, hT2⟩ := List.cons_eq_cons.mp hT
        have h1 := h A x B hT2
        have h2 : offF (hs.take (m + 1) ++ (y :: A ++ B)) F x.1 ≤ offF (hs.take (m + 1 + 1) ++ (A ++ B)) F x.1 := off_mono _ _ fun r hr => by
          rw [et]
          simp at hr ⊢
          rcases hr with hr | hr | hr | hr
          · exact .inl hr
          · exact .inr (.inl hr)
          · exact .inr (.inr (.inl hr))
          · exact .inr (.inr (.inr hr))
        omega
theorem trim_sub {F : Vec → Int} {hs : List Row} : ∀ (m : Nat) (T : List Row), m < hs.length → (∀ t ∈ T, t ∈ hs) → ∃ R, trimF F hs m T = hs.take 1 ++ R ∧ (∀ t ∈ R, t ∈ hs) ∧ R.length ≤ m + T.length
  | 0, T, _, hT => ⟨T, rfl, hT, by omega⟩
  | m + 1, T, hm, hT => by
    have hx : hs[m + 1]? = some hs[m + 1] := List.getElem?_eq_getElem hm
    have hmem := List.getElem_mem hm
    rw [trimF_succ hx]
    generalize hs[m + 1] = y at hx hmem ⊢
    by_cases c : y.2 ≤ offF (hs.take (m + 1) ++ T) F y.1
    · rw [if_pos c]
      obtain ⟨R, h1, h2, h3⟩ := trim_sub (F := F) (hs := hs) m T (by omega) hT
      exact ⟨R, h1, h2, by omega⟩
    · rw [if_neg c]
      obtain ⟨R, h1, h2, h3⟩ := trim_sub (F := F) (hs := hs) m (y :: T) (by omega) fun t ht => by
        rcases List.mem_cons.mp ht with rfl | ht
        · exact hmem
        · exact hT t ht
      exact ⟨R, h1, h2, by simp at h3; omega⟩
/-- all of trim -/
theorem trim_all {k : Nat} {a : Tar} (ha : OkTar k a) : OkTar k (trimF (TT a.2) a.1 (a.1.length - 1) [], a.2) ∧ (∀ r ∈ trimF (TT a.2) a.1 (a.1.length - 1) [], r ∈ a.1) ∧
    (∀ v, KM.okV k v → offF (trimF (TT a.2) a.1 (a.1.length - 1) []) (TT a.2) v = offF a.1 (TT a.2) v) ∧
    ∀ i h, (trimF (TT a.2) a.1 (a.1.length - 1) [])[i + 1]? = some h → offF ((trimF (TT a.2) a.1 (a.1.length - 1) []).take (i + 1) ++ (trimF (TT a.2) a.1 (a.1.length - 1) []).drop (i + 1 + 1)) (TT a.2) h.1 < h.2 := by
  obtain ⟨r0, h0⟩ := ha.h0
  have hne : 1 ≤ a.1.length := by rw [h0]; simp
  obtain ⟨R, e1, e2, e3⟩ := trim_sub (F := TT a.2) (hs := a.1) (a.1.length - 1) [] (by omega) (fun t ht => by cases ht)
  have hoff := fun v hv => trim_off (tar_forms ha) (tar_heads ha) h0 (v := v) hv (a.1.length - 1) [] (by omega) (fun t ht => by cases ht)
  have hneed := trim_need (F := TT a.2) (hs := a.1) (a.1.length - 1) [] (by omega) (fun A x B h => by simp at h)
  have et : a.1.take (a.1.length - 1 + 1) ++ [] = a.1 := by rw [List.append_nil, Nat.sub_add_cancel hne, List.take_length]
  rw [et] at hoff
  generalize trimF (TT a.2) a.1 (a.1.length - 1) [] = W at *
  have e1' : W = (zV k, 0) :: R := by rw [e1, h0]; rfl
  have hsub : ∀ r ∈ W, r ∈ a.1 := fun r hr => by
    rw [e1'] at hr
    rcases List.mem_cons.mp hr with rfl | hr
    · rw [h0]; exact List.mem_cons_self
    · exact e2 r hr
  refine ⟨⟨ha.kr, ⟨R, e1'⟩, ?_, fun r hr => ha.hs r (hsub r hr), ha.fl, ha.fs⟩, hsub, hoff, fun i h hi => ?_⟩
  · have := ha.hl
    show W.length ≤ 400
    rw [e1']
    simp at e3 ⊢
    omega
  · have hlt := (List.getElem?_eq_some_iff.mp hi).1
    refine hneed (W.take (i + 1)) h (W.drop (i + 1 + 1)) (fun e => ?_) ?_
    · have : (W.take (i + 1)).length = 0 := by rw [e]; rfl
      rw [List.length_take] at this
      omega
    · have hd : W.drop (i + 1) = h :: W.drop (i + 1 + 1) := by
        rw [List.drop_eq_getElem_cons hlt]
        congr 1
        rw [List.getElem?_eq_getElem hlt] at hi
        exact Option.some.inj hi
      rw [← hd, List.take_append_drop]
end K50
end

section
set_option Elab.async false
set_option linter.all false
set_option maxRecDepth 100000
set_option maxHeartbeats 2000000
/-! K50P17: fewer goods. -/
namespace K50
open PL
open KM (Vec Row addV subV leV members placeV prodB ext1 nonneg offF TT)
/-- the sum of f from least on, n of them, without those of gs -/
def restS (gs : List Int) (f : Int → Int) : Int → Nat → Int
  | _, 0 => 0
  | least, n + 1 => (if least ∈ gs then 0 else f least) + restS gs f (least + 1) n
def allS (f : Int → Int) : Int → Nat → Int
  | _, 0 => 0
  | least, n + 1 => f least + allS f (least + 1) n
theorem restS_cong {gs gs' : List Int} {f : Int → Int} : ∀ (n : Nat) (least : Int), (∀ i, least ≤ i → (i ∈ gs ↔ i ∈ gs')) → restS gs f least n = restS gs' f least n
  | 0, _, _ => rfl
  | n + 1, least, h => by
    show (if least ∈ gs then 0 else f least) + restS gs f (least + 1) n = (if least ∈ gs' then 0 else f least) + restS gs' f (least + 1) n
    rw [restS_cong n (least + 1) fun i hi => h i (by omega)]
    have := h least (by omega)
    by_cases c : least ∈ gs
    · rw [if_pos c, if_pos (this.mp c)]
    · rw [if_neg c, if_neg fun x => c (this.mpr x)]
theorem asc_split {f : Int → Int} : ∀ (n : Nat) (least : Int) (gs : List Int), ascI (least + n) least gs → allS f least n = (gs.map f).sum + restS gs f least n
  | 0, least, [], _ => rfl
  | 0, least, g :: r, h => by have := h.1; omega
  | n + 1, least, [], _ => by
    have ih := asc_split (f := f) n (least + 1) [] trivial
    show f least + allS f (least + 1) n = 0 + ((if least ∈ ([] : List Int) then 0 else f least) + restS [] f (least + 1) n)
    rw [ih]
    simp
  | n + 1, least, g :: r, h => by
    have e : least + ((n + 1 : Nat) : Int) = least + 1 + (n : Int) := by omega
    rw [e] at h
    by_cases c : least = g
    · subst c
      have ih := asc_split (f := f) n (least + 1) r h.2
      have hm := asc_mem h.2
      show f least + allS f (least + 1) n = (f least + (r.map f).sum) + ((if least ∈ least :: r then 0 else f least) + restS (least :: r) f (least + 1) n)
      rw [ih, if_pos List.mem_cons_self, restS_cong (gs := least :: r) (gs' := r) n (least + 1) fun i hi => ⟨fun q => by
        rcases List.mem_cons.mp q with q | q
        · omega
        · exact q, fun q => List.mem_cons_of_mem _ q⟩]
      omega
    · have h1 := h.1
      have h2 : ascI (least + 1 + n) (least + 1) (g :: r) := ⟨⟨by omega, h1.2⟩, h.2⟩
      have ih := asc_split (f := f) n (least + 1) (g :: r) h2
      have hm := asc_mem h2
      have hn : least ∉ g :: r := fun q => by have := hm _ q; omega
      show f least + allS f (least + 1) n = ((g :: r).map f).sum + ((if least ∈ g :: r then 0 else f least) + restS (g :: r) f (least + 1) n)
      rw [ih, if_neg hn]
      omega
theorem restS_zero {gs : List Int} {f : Int → Int} : ∀ (n : Nat) (least : Int), (∀ i, least ≤ i → i < least + n → 0 ≤ f i) → 0 ≤ restS gs f least n ∧ (restS gs f least n = 0 ↔ ∀ i, least ≤ i → i < least + n → i ∉ gs → f i = 0)
  | 0, least, _ => ⟨Int.le_refl 0, ⟨fun _ i h1 h2 => by omega, fun _ => rfl⟩⟩
  | n + 1, least, h => by
    obtain ⟨h1, h2⟩ := restS_zero (gs := gs) (f := f) n (least + 1) fun i a b => h i (by omega) (by omega)
    have h0 := h least (by omega) (by omega)
    have e : restS gs f least (n + 1) = (if least ∈ gs then 0 else f least) + restS gs f (least + 1) n := rfl
    rw [e]
    have hc : 0 ≤ (if least ∈ gs then 0 else f least) := by split <;> omega
    refine ⟨by omega, fun q i a b c => ?_, fun q => ?_⟩
    · by_cases d : i = least
      · subst d
        rw [if_neg c] at q hc
        omega
      · exact h2.mp (by omega) i (by omega) (by omega) c
    · have q1 := h2.mpr fun i a b c => q i (by omega) (by omega) c
      rw [q1]
      by_cases c : least ∈ gs
      · rw [if_pos c]; rfl
      · rw [if_neg c, q least (by omega) (by omega) c]; rfl
theorem allS_sum : ∀ (v : Vec) (w : Vec), allS (gN (w ++ v)) (w.length : Int) v.length = v.sum
  | [], w => rfl
  | x :: v, w => by
    have ih := allS_sum v (w ++ [x])
    rw [List.append_assoc, List.singleton_append, List.length_append, List.length_singleton] at ih
    show gN (w ++ x :: v) w.length + allS (gN (w ++ x :: v)) ((w.length : Int) + 1) v.length = _
    have e : ((w.length + 1 : Nat) : Int) = (w.length : Int) + 1 := by omega
    rw [e] at ih
    rw [ih, List.sum_cons]
    congr 1
    simp [gN, List.getD]
/-- nought outside of some goods -/
def offG (gs : List Int) (k : Nat) (v : Vec) : Prop := ∀ i : Int, 0 ≤ i → i < k → i ∉ gs → gN v i = 0
theorem gN_nn {v : Vec} (h : nonneg v) (i : Int) : 0 ≤ gN v i := by
  unfold gN
  by_cases hj : i.toNat < v.length
  · exact h _ (List.mem_of_getElem? (getD_at hj))
  · have : v.getD i.toNat 0 = 0 := by simp [List.getD, List.getElem?_eq_none (show v.length ≤ i.toNat by omega)]
    omega
theorem gN_some {v : Vec} {i : Nat} {x : Int} (h : v[i]? = some x) : gN v i = x := by
  have hi := (List.getElem?_eq_some_iff.mp h).1
  have := getD_at hi
  rw [h] at this
  unfold gN
  rw [Int.toNat_natCast]
  exact (Option.some.inj this).symm
theorem sum_iff {k : Nat} {gs : List Int} (hg : ascI k 0 gs) {v : Vec} (hv : KM.okV k v) : (gs.map (gN v)).sum = v.sum ↔ offG gs k v := by
  have h1 := asc_split (f := gN v) k 0 gs (by simpa using hg)
  have h2 := allS_sum v []
  have h3 := restS_zero (gs := gs) (f := gN v) k 0 fun i _ _ => gN_nn hv.2 i
  rw [List.nil_append, hv.1] at h2
  have h2' : allS (gN v) 0 k = v.sum := h2
  rw [h1] at h2'
  constructor
  · intro e i a b c
    exact h3.2.mp (by omega) i a (by omega) c
  · intro e
    have := h3.2.mpr fun i a b c => e i a (by omega) c
    omega
abbrev prV (gs : List Int) (v : Vec) : Vec := gs.map (gN v)
theorem pr_at {gs : List Int} {v : Vec} {j : Nat} {g : Int} (h : gs[j]? = some g) : (prV gs v)[j]? = some (gN v g) := by
  rw [List.getElem?_map, h]; rfl
theorem pr_ok {gs : List Int} {v : Vec} {k : Nat} (hv : KM.okV k v) : KM.okV gs.length (prV gs v) := ⟨by simp, fun x hx => by
  obtain ⟨g, _, rfl⟩ := List.mem_map.mp hx
  exact gN_nn hv.2 g⟩
theorem gN_sub {k : Nat} {a b : Vec} (ha : a.length = k) (hb : b.length = k) {g : Int} (h0 : 0 ≤ g) (h1 : g < k) : gN (subV a b) g = gN a g - gN b g := by
  have e1 := getD_at (a := a) (i := g.toNat) (by omega)
  have e2 := getD_at (a := b) (i := g.toNat) (by omega)
  have e3 := KM.sub_at e1 e2
  have := gN_some e3
  rw [Int.toNat_of_nonneg h0] at this
  exact this
theorem pr_sub {k : Nat} {gs : List Int} (hg : ∀ g ∈ gs, 0 ≤ g ∧ g < (k : Int)) {a b : Vec} (ha : a.length = k) (hb : b.length = k) : prV gs (subV a b) = subV (prV gs a) (prV gs b) := by
  show gs.map (gN (subV a b)) = List.zipWith (· - ·) (gs.map (gN a)) (gs.map (gN b))
  rw [List.zipWith_map, List.zipWith_self]
  exact List.map_congr_left fun g h => gN_sub ha hb (hg g h).1 (hg g h).2
theorem pr_le {k : Nat} {gs : List Int} (hg : ∀ g ∈ gs, 0 ≤ g ∧ g < (k : Int)) {a b : Vec} (ha : KM.okV k a) (hb : KM.okV k b) (oa : offG gs k a) : leV (prV gs a) (prV gs b) = leV a b := by
  rw [Bool.eq_iff_iff, KM.leV_iff (by simp), KM.leV_iff (ha.1.trans hb.1.symm)]
  constructor
  · intro h i x y hx hy
    have hi := (List.getElem?_eq_some_iff.mp hx).1
    have hik : (i : Int) < k := by rw [ha.1] at hi; omega
    rw [← gN_some hx, ← gN_some hy]
    by_cases c : (i : Int) ∈ gs
    · obtain ⟨j, hj⟩ := List.getElem?_of_mem c
      exact h j _ _ (pr_at hj) (pr_at hj)
    · rw [oa i (by omega) hik c]
      exact gN_nn hb.2 _
  · intro h j x y hx hy
    have hj := (List.getElem?_eq_some_iff.mp hx).1
    have hjg : gs[j]? = some (gs[j]'(by simpa using hj)) := List.getElem?_eq_getElem _
    have hgj := hg _ (List.mem_of_getElem? hjg)
    generalize gs[j]'(by simpa using hj) = g at hjg hgj
    rw [pr_at hjg] at hx hy
    cases hx
    cases hy
    have e1 := getD_at (a := a) (i := g.toNat) (by rw [ha.1]; omega)
    have e2 := getD_at (a := b) (i := g.toNat) (by rw [hb.1]; omega)
    exact h _ _ _ e1 e2
theorem le_off {k : Nat} {gs : List Int} {a b : Vec} (ha : KM.okV k a) (hb : KM.okV k b) (h : leV a b = true) (ob : offG gs k b) : offG gs k a := fun i h0 h1 c => by
  have e1 := getD_at (a := a) (i := i.toNat) (by rw [ha.1]; omega)
  have e2 := getD_at (a := b) (i := i.toNat) (by rw [hb.1]; omega)
  have := (KM.leV_iff (ha.1.trans hb.1.symm)).mp h _ _ _ e1 e2
  have q : gN a i ≤ gN b i := this
  have := ob i h0 h1 c
  have := gN_nn ha.2 i
  omega
/-- the fold over the rows that are left -/
theorem off_proj {k : Nat} {gs : List Int} (hg : ascI k 0 gs) {rows : List Row} (hr : ∀ r ∈ rows, KM.okV k r.1) {F F' : Vec → Int} {v : Vec} (hv : KM.okV k v) (ov : offG gs k v)
    (hF : ∀ r ∈ rows, leV r.1 v = true → F' (prV gs (subV v r.1)) = F (subV v r.1)) : offF (projR gs rows) F' (prV gs v) = offF rows F v := by
  have hm := asc_mem hg
  have h1 : offF (projR gs rows) F' (prV gs v) ≤ offF rows F v := KM.off_ub (KM.off_pos _ _ _) fun r' hr' c => by
    obtain ⟨r, hrf, rfl⟩ := List.mem_map.mp hr'
    obtain ⟨hrm, hrs⟩ := List.mem_filter.mp hrf
    have ho := (sum_iff hg (hr r hrm)).mp (of_decide_eq_true hrs)
    have c' : leV (prV gs r.1) (prV gs v) = true := c
    rw [pr_le hm (hr r hrm) hv ho] at c'
    have := KM.off_le (F := F) hrm c'
    rw [← hF r hrm c', pr_sub hm hv.1 (hr r hrm).1] at this
    exact this
  have h2 : offF rows F v ≤ offF (projR gs rows) F' (prV gs v) := KM.off_ub (KM.off_pos _ _ _) fun r hrm c => by
    have ho := le_off (hr r hrm) hv c ov
    have hs := (sum_iff hg (hr r hrm)).mpr ho
    have hmem : (prV gs r.1, r.2) ∈ projR gs rows := List.mem_map.mpr ⟨r, List.mem_filter.mpr ⟨hrm, decide_eq_true hs⟩, rfl⟩
    have c' : leV (prV gs r.1) (prV gs v) = true := by rw [pr_le hm (hr r hrm) hv ho]; exact c
    have := KM.off_le (F := F') hmem c'
    rw [← hF r hrm c, pr_sub hm hv.1 (hr r hrm).1]
    exact this
  omega
theorem proj_forms {k : Nat} {gs : List Int} {fs : List Row} (ok : KM.okForms k fs) : KM.okForms gs.length (projR gs fs) := fun r' hr' => by
  obtain ⟨r, hrf, rfl⟩ := List.mem_map.mp hr'
  obtain ⟨hrm, hrs⟩ := List.mem_filter.mp hrf
  obtain ⟨a, b, c, d⟩ := ok r hrm
  have := of_decide_eq_true hrs
  exact ⟨by simp, (pr_ok (gs := gs) (k := k) ⟨a, b⟩).2, by show 0 < (gs.map (gN r.1)).sum; omega, d⟩
theorem TT_proj {k : Nat} {gs : List Int} (hg : ascI k 0 gs) {fs : List Row} (ok : KM.okForms k fs) : ∀ (m : Nat) (v : Vec), v.sum.toNat < m → KM.okV k v → offG gs k v → TT (projR gs fs) (prV gs v) = TT fs v
  | 0, v, h, _, _ => by omega
  | m + 1, v, h, hv, ov => by
    rw [KM.TT_eq (proj_forms (gs := gs) ok) (pr_ok hv), KM.TT_eq ok hv]
    refine off_proj hg (fun r hr => ⟨(ok r hr).1, (ok r hr).2.1⟩) hv ov fun r hr c => ?_
    obtain ⟨r1, r2, r3, _⟩ := ok r hr
    have hw : KM.okV k (subV v r.1) := ⟨(KM.subV_len (hv.1.trans r1.symm)).trans hv.1, KM.sub_nonneg (hv.1.trans r1.symm) c⟩
    have hs := KM.sum_sub (hv.1.trans r1.symm)
    exact TT_proj hg ok m _ (by have := KM.sum_nonneg hw.2; omega) hw (le_off hw hv (KM.sub_le (hv.1.trans r1.symm) r2) ov)
theorem off_project {k : Nat} {gs : List Int} (hg : ascI k 0 gs) {a : Tar} (ha : OkTar k a) {v : Vec} (hv : KM.okV k v) (ov : offG gs k v) : offF (projR gs a.1) (TT (projR gs a.2)) (prV gs v) = offF a.1 (TT a.2) v :=
  off_proj hg (fun r hr => ⟨(tar_heads ha r hr).1, (tar_heads ha r hr).2.1⟩) hv ov fun r hr c => by
    obtain ⟨r1, r2, r3⟩ := tar_heads ha r hr
    have hw : KM.okV k (subV v r.1) := ⟨(KM.subV_len (hv.1.trans r1.symm)).trans hv.1, KM.sub_nonneg (hv.1.trans r1.symm) c⟩
    exact TT_proj hg (tar_forms ha) _ _ (Nat.lt_succ_self _) hw (le_off hw hv (KM.sub_le (hv.1.trans r1.symm) r2) ov)
theorem proj_rows {k : Nat} {gs : List Int} (hg : ∀ g ∈ gs, 0 ≤ g ∧ g < (k : Int)) {rows : List Row} {most lo hi : Int} (hm : 0 ≤ most) (h : ∀ r ∈ rows, rowB k most lo hi r = true) : ∀ r ∈ projR gs rows, rowB gs.length most lo hi r = true := fun r' hr' => by
  obtain ⟨r, hrf, rfl⟩ := List.mem_map.mp hr'
  obtain ⟨hrm, _⟩ := List.mem_filter.mp hrf
  obtain ⟨a, b, c, d, e⟩ := row_ok (h r hrm)
  refine rowIn_B (most := most) (lo := lo) (hi := hi) ⟨by simp, fun x hx => ?_, c, d⟩ (Int.le_refl _) (Int.le_refl _) (Int.le_refl _)
  obtain ⟨g, hgm, rfl⟩ := List.mem_map.mp hx
  have hgb := hg g hgm
  have hmm := List.mem_of_getElem? (getD_at (a := r.1) (i := g.toNat) (by omega))
  exact ⟨b _ hmm, e _ hmm⟩
theorem proj_tar {k : Nat} {gs : List Int} (hg : ascI k 0 gs) (hne : gs ≠ []) {a : Tar} (ha : OkTar k a) : OkTar gs.length (projR gs a.1, projR gs a.2) := by
  have hm := asc_mem hg
  have hl := asc_len hg (by omega)
  have hk := ha.kr
  have h1 := List.length_pos_iff.mpr hne
  refine ⟨⟨h1, by omega⟩, ?_, ?_, proj_rows hm (by omega) ha.hs, ?_, fun r hr => ⟨proj_rows hm (by omega) (fun r hr => (ha.fs r hr).1) r hr, (proj_forms (gs := gs) (tar_forms ha) r hr).2.2.1⟩⟩
  · obtain ⟨r0, h0⟩ := ha.h0
    show ∃ r, projR gs a.1 = (List.replicate gs.length 0, 0) :: r
    rw [h0]
    have hz : ∀ g, gN (List.replicate k 0) g = 0 := fun g => by
      unfold gN
      rw [List.getD_eq_getElem?_getD, List.getElem?_replicate]
      split <;> rfl
    have e1 : gs.map (gN (List.replicate k 0)) = List.replicate gs.length 0 := by
      rw [List.eq_replicate_iff]
      refine ⟨by simp, fun x hx => ?_⟩
      obtain ⟨g, _, rfl⟩ := List.mem_map.mp hx
      exact hz g
    have e2 : decide ((gs.map (gN (List.replicate k 0))).sum = (List.replicate k (0 : Int)).sum) = true := by rw [e1]; simp
    unfold projR
    rw [List.filter_cons_of_pos (p := fun r : Row => decide ((gs.map (gN r.1)).sum = r.1.sum)) e2, List.map_cons, e1]
    exact ⟨_, rfl⟩
  · show (projR gs a.1).length ≤ 400
    unfold projR
    rw [List.length_map]
    have := filt_le (fun r : Row => decide ((gs.map (gN r.1)).sum = r.1.sum)) a.1
    have := ha.hl
    omega
  · show (projR gs a.2).length ≤ 12
    unfold projR
    rw [List.length_map]
    have := filt_le (fun r : Row => decide ((gs.map (gN r.1)).sum = r.1.sum)) a.2
    have := ha.fl
    omega
end K50
end

section
set_option Elab.async false
set_option linter.all false
set_option maxRecDepth 100000
set_option maxHeartbeats 2000000
/-! K50P18: the offs that are due. -/
namespace K50
open PL
open KM (Vec Row addV subV leV members placeV prodB ext1 nonneg offF TT)
theorem box_V {k : Nat} {v : Vec} (h : OkBox k v) : KM.okV k v := ⟨h.len, h.nn⟩
theorem e_lsplit (n : Nat) {a b : Tar} {k : Nat} (ha : OkTar k a) (hb : OkTar k b) {v : Vec} (hv : OkBox k v) (hp : ¬ 2000 < prodB v) : callF D G (n + 3) 49 [tarP a, tarP b, vP v] = .ok (.int (splitF a b v)) := by
  rw [c__law_split, w_run]
  have h4 := hv.k4
  have m1 := e_lmost n a.2 v k hv (tar_forms ha) hp
  have m2 := e_lmost n b.2 v k hv (tar_forms hb) hp
  have mm := e_lmembers (n + 1) v hv.sm (by rw [hv.len]; omega) hp
  have mi := fun (x y : Vec) (h1 : x.length ≤ 1000) (h2 : x.length = y.length) => e_lminus (n + 1) x y h1 h2
  have o1 := fun (w : Vec) (h2 : KM.inB w v) => e_loff n (rowsP a.1) a.1 w v (TT a.2) k hv (rows_t a.1) (tar_heads ha) h2
  have o2 := fun (w : Vec) (h2 : KM.inB w v) => e_loff n (rowsP b.1) b.1 w v (TT b.2) k hv (rows_t b.1) (tar_heads hb) h2
  generalize callF D G (n + 2) = Γ at m1 m2 mm mi o1 o2 ⊢
  have o1' : ∀ w, KM.inB w v → Γ 35 [rowsP a.1, mostP a.2 v, vP w] = .ok (.int (offF a.1 (TT a.2) w)) := o1
  have o2' : ∀ w, KM.inB w v → Γ 35 [rowsP b.1, mostP b.2 v, vP w] = .ok (.int (offF b.1 (TT b.2) w)) := o2
  simp [i__law_split, PL.start, tar_0, tar_1, m1, m2, mm]
  generalize hst : lSt _ _ _ _ _ = step
  have e := (forP_fold step vP (fun (m : Int) => [.fz (tarP a), .fz (tarP b), .fz (vP v), .fz (mostP a.2 v), .fz (mostP b.2 v), .fz (.int m), .un, .un]) (fun m p => max m (offF a.1 (TT a.2) p + offF b.1 (TT b.2) (subV v p))) (fun _ => True) (members v) 0 trivial (fun p hpm m _ => ⟨by
    have hin := KM.members_in v p hpm
    have hsub := sub_in hv (in_self hv) (hin.1.trans hv.len) hin.2.1 hin.2.2
    rw [← hst]
    simp [tar_0, mi v p (by rw [hv.len]; omega) hin.1.symm, o1' p hin, o2' _ hsub.1], trivial⟩)).1
  rw [e]
  simp [splitF]
theorem in_ints (i : Int) (gs : List Int) : inP (.int i) (.tup (gs.map .int)) = .ok (decide (i ∈ gs)) := by
  have h1 : (gs.map P.int).all flat = true := by
    rw [List.all_map, List.all_eq_true]
    intro x _
    rfl
  have h2 : ((gs.map P.int).any fun y => eqv y (.int i)) = decide (i ∈ gs) := by
    rw [List.any_map, Bool.eq_iff_iff, List.any_eq_true, decide_eq_true_iff]
    constructor
    · rintro ⟨x, hx, h⟩
      have : x = i := of_decide_eq_true (h : decide (x = i) = true)
      exact this ▸ hx
    · intro h
      exact ⟨i, h, (decide_eq_true rfl : decide (i = i) = true)⟩
  show Rs.when (flat (.int i) && (gs.map P.int).all flat) (.ok ((gs.map P.int).any fun y => eqv y (.int i))) = _
  rw [h1, h2]
  rfl
def wideV (gs : List Int) (v : Vec) : Vec := (List.range v.length).map fun (i : Nat) => gN v i * (if (i : Int) ∈ gs then 1 else 0)
theorem wide_at {gs : List Int} {v : Vec} {i : Nat} (h : i < v.length) : (wideV gs v)[i]? = some (gN v i * (if (i : Int) ∈ gs then 1 else 0)) := by
  unfold wideV
  rw [List.getElem?_map, List.getElem?_range h]
  rfl
theorem wide_len (gs : List Int) (v : Vec) : (wideV gs v).length = v.length := by simp [wideV]
theorem wide_le {gs : List Int} {v : Vec} (hn : nonneg v) : nonneg (wideV gs v) ∧ leV (wideV gs v) v = true := by
  constructor
  · intro x hx
    obtain ⟨i, _, rfl⟩ := List.mem_map.mp hx
    have := gN_nn hn i
    split <;> omega
  · rw [KM.leV_iff (wide_len gs v)]
    intro i x y hx hy
    have hi := (List.getElem?_eq_some_iff.mp hy).1
    rw [wide_at hi] at hx
    cases hx
    have h1 := gN_some hy
    have h2 := gN_nn hn i
    rw [h1] at h2 ⊢
    split <;> omega
theorem wide_gN {gs : List Int} {v : Vec} {i : Int} (h0 : 0 ≤ i) (h1 : i < v.length) : gN (wideV gs v) i = gN v i * (if i ∈ gs then 1 else 0) := by
  obtain ⟨j, rfl⟩ := nat_of h0
  exact gN_some (wide_at (by omega))
theorem wide_off {gs : List Int} {v : Vec} {k : Nat} (h : v.length = k) : offG gs k (wideV gs v) := fun i h0 h1 c => by
  rw [wide_gN h0 (by omega), if_neg c, Int.mul_zero]
theorem wide_pr {gs : List Int} {v : Vec} {k : Nat} (h : v.length = k) (hg : ∀ g ∈ gs, 0 ≤ g ∧ g < (k : Int)) : prV gs (wideV gs v) = prV gs v :=
  List.map_congr_left fun g hm => by
    have := hg g hm
    rw [wide_gN this.1 (by omega), if_pos hm, Int.mul_one]
theorem wide_box {gs : List Int} {v : Vec} {k : Nat} (h : OkBox k v) : OkBox k (wideV gs v) := by
  obtain ⟨h1, h2⟩ := wide_le (gs := gs) h.nn
  refine ⟨(wide_len gs v).trans h.len, fun x hx => ⟨h1 x hx, ?_⟩, h.k4⟩
  obtain ⟨i, hi⟩ := List.getElem?_of_mem hx
  have hlt := (List.getElem?_eq_some_iff.mp hi).1
  rw [wide_len] at hlt
  have e := getD_at hlt
  have := (KM.leV_iff (wide_len gs v)).mp h2 i _ _ hi e
  have := h.sm _ (List.mem_of_getElem? e)
  omega
theorem e_due (n : Nat) (d : Int) {a b : Tar} {k : Nat} (ha : OkTar k a) (hb : OkTar k b) (gp : P) {v : Vec} (hv : OkBox k v) (hp : ¬ 2000 < prodB v) (hd : d = 0 ∨ d = 3) :
    callF D G (n + 4) 50 [.int d, tarP a, tarP b, gp, vP v] = .ok (.int (if d = 0 then max (offF a.1 (TT a.2) v) (offF b.1 (TT b.2) v) else offF a.1 (TT a.2) v)) := by
  rw [c__law_due_off, w_run]
  have m1 := e_lmost (n + 1) a.2 v k hv (tar_forms ha) hp
  have m2 := e_lmost (n + 1) b.2 v k hv (tar_forms hb) hp
  have o1 : callF D G (n + 3) 35 [rowsP a.1, mostP a.2 v, vP v] = .ok (.int (offF a.1 (TT a.2) v)) := e_loff (n + 1) (rowsP a.1) a.1 v v (TT a.2) k hv (rows_t a.1) (tar_heads ha) (in_self hv)
  have o2 : callF D G (n + 3) 35 [rowsP b.1, mostP b.2 v, vP v] = .ok (.int (offF b.1 (TT b.2) v)) := e_loff (n + 1) (rowsP b.1) b.1 v v (TT b.2) k hv (rows_t b.1) (tar_heads hb) (in_self hv)
  generalize callF D G (n + 3) = Γ at m1 m2 o1 o2 ⊢
  rcases hd with rfl | rfl
  · simp [i__law_due_off, PL.start, tar_0, tar_1, m1, m2, o1, o2]
  · simp [i__law_due_off, PL.start, tar_0, tar_1, m1, m2, o1, o2]
theorem e_due1 (n : Nat) {a b : Tar} {k : Nat} (ha : OkTar k a) (hb : OkTar k b) (gp : P) {v : Vec} (hv : OkBox k v) (hp : ¬ 2000 < prodB v) :
    callF D G (n + 4) 50 [.int 1, tarP a, tarP b, gp, vP v] = .ok (.int (splitF a b v)) := by
  rw [c__law_due_off, w_run]
  have m := e_lsplit n ha hb hv hp
  generalize callF D G (n + 3) = Γ at m ⊢
  simp [i__law_due_off, PL.start, m]
theorem e_due2 (n : Nat) {a : Tar} {k : Nat} (ha : OkTar k a) (bp : P) (gs : List Int) {v : Vec} (hv : OkBox k v) (hp : ¬ 2000 < prodB v) :
    callF D G (n + 4) 50 [.int 2, tarP a, bp, .tup (gs.map .int), vP v] = .ok (.int (offF a.1 (TT a.2) (wideV gs v))) := by
  rw [c__law_due_off, w_run]
  have hw := wide_box (gs := gs) hv
  have hpw : ¬ 2000 < prodB (wideV gs v) := by
    obtain ⟨h1, h2⟩ := wide_le (gs := gs) hv.nn
    have := prodB_le (wide_len gs v) h1 h2
    omega
  have m1 := e_lmost (n + 1) a.2 (wideV gs v) k hw (tar_forms ha) hpw
  have o1 : callF D G (n + 3) 35 [rowsP a.1, mostP a.2 (wideV gs v), vP (wideV gs v)] = .ok (.int (offF a.1 (TT a.2) (wideV gs v))) := e_loff (n + 1) (rowsP a.1) a.1 (wideV gs v) (wideV gs v) (TT a.2) k hw (rows_t a.1) (tar_heads ha) (in_self hw)
  generalize callF D G (n + 3) = Γ at m1 o1 ⊢
  have h4 := hv.k4
  have hl := hv.len
  have hrg : rngOk (v.length : Int) = true := rng_ok (by omega) (by omega)
  have hrg2 : (v.length : Int) ≤ 16777216 := by omega
  simp [i__law_due_off, PL.start, vP, hrg, hrg2, rngL_one]
  rw [compP_map (inj := fun (i : Nat) => P.int (i : Int)) (g := fun (i : Nat) => .int (gN v i * (if (i : Int) ∈ gs then 1 else 0))) (l := List.range v.length) _ (fun i hi => by
    have hi := List.mem_range.mp hi
    have h1 := at_get (ns := v) (j := (i : Int)) (by omega) (by omega)
    have h2 := in_ints (i : Int) gs
    by_cases c : (i : Int) ∈ gs
    · have m : mulOk (gN v i) 1 = true := mul_ok (by omega) (by omega)
      simp [h1, h2, c, m]
    · have m : mulOk (gN v i) 0 = true := mul_ok (by omega) (by omega)
      simp [h1, h2, c, m])]
  have ew : P.tup ((List.range v.length).map fun (i : Nat) => P.int (gN v i * (if (i : Int) ∈ gs then 1 else 0))) = vP (wideV gs v) := by
    unfold wideV vP
    rw [List.map_map]
    rfl
  simp only [kLst_0, kEvs_0, kCons_0, kBlt_0, w_18, tuple_l, ew]
  simp [tar_0, tar_1, ew, m1, o1]
end K50
end

section
set_option Elab.async false
set_option linter.all false
set_option maxRecDepth 100000
set_option maxHeartbeats 4000000
/-! K50P19: the law. -/
namespace K50
open PL
open KM (Vec Row addV subV leV members placeV prodB ext1 nonneg offF TT)
def betterX (a b : Tar) : Rs P := if a.2 = b.2 then (if 400 < a.1.length + (b.1.length - 1) then .exc ⟨4, [.int 400]⟩ else .ok (tarP (a.1 ++ b.1.tail, a.2))) else .exc ⟨3, [.str "forms"]⟩
/-- what is due, of an end -/
def dueX : Rs P → P
  | .ok p => .tup [.bl false, p]
  | .exc x => toldE x
  | .bad => .non
/-- an end that can be told -/
def fine (X : Rs P) : Prop := match X with
  | .ok p => plain 4 p = true
  | .exc x => canTell x ∧ plain 5 (toldE x) = true ∧ ∃ p, toldE x = .tup [.bl true, p]
  | .bad => False
theorem plain_up : ∀ (d : Nat) (p : P), plain d p = true → plain (d + 1) p = true
  | 0, p, h => plain_leaf h
  | d + 1, p, h => by
    cases p with
    | non => rfl
    | bl b => rfl
    | int i => rfl
    | str x => rfl
    | tup xs =>
      have h' : (decide (xs.length ≤ 1000) && xs.all (plain d)) = true := h
      rw [Bool.and_eq_true, List.all_eq_true] at h'
      show (decide (xs.length ≤ 1000) && xs.all (plain (d + 1))) = true
      rw [Bool.and_eq_true, List.all_eq_true]
      exact ⟨h'.1, fun x hx => plain_up d x (h'.2 x hx)⟩
    | lst xs => cases h
    | dic xs => cases h
    | scr xs => cases h
theorem plain_tupI (d : Nat) (xs : List P) (h : xs.length ≤ 1000) (h2 : ∀ x ∈ xs, plain d x = true) : plain (d + 1) (.tup xs) = true := by
  show (decide (xs.length ≤ 1000) && xs.all (plain d)) = true
  rw [Bool.and_eq_true, List.all_eq_true]
  exact ⟨decide_eq_true h, h2⟩
theorem plain_row {k : Nat} {most lo hi : Int} {r : Row} (hk : k ≤ 1000) (h : rowB k most lo hi r = true) : plain 2 (rowP r) = true := by
  have := (row_ok h).1
  refine plain_tupI 1 [vP r.1, .int r.2] (by simp) fun x hx => ?_
  simp at hx
  rcases hx with rfl | rfl
  · refine plain_tupI 0 (r.1.map .int) (by rw [List.length_map]; omega) fun x hx => ?_
    obtain ⟨i, _, rfl⟩ := List.mem_map.mp hx
    rfl
  · rfl
theorem plain_tar {k : Nat} {t : Tar} (h : OkTar k t) : plain 4 (tarP t) = true := by
  have hk := h.kr
  refine plain_tupI 3 [rowsP t.1, rowsP t.2] (by simp) fun x hx => ?_
  simp at hx
  rcases hx with rfl | rfl
  · refine plain_tupI 2 (t.1.map rowP) (by rw [List.length_map]; have := h.hl; omega) fun x hx => ?_
    obtain ⟨r, hr, rfl⟩ := List.mem_map.mp hx
    exact plain_row (by omega) (h.hs r hr)
  · refine plain_tupI 2 (t.2.map rowP) (by rw [List.length_map]; have := h.fl; omega) fun x hx => ?_
    obtain ⟨r, hr, rfl⟩ := List.mem_map.mp hx
    exact plain_row (by omega) (h.fs r hr).1
theorem fine_many (i : Int) : fine (.exc ⟨4, [.int i]⟩) := ⟨trivial, rfl, _, rfl⟩
theorem fine_tar (s : PySem.Str) : fine (.exc ⟨3, [.str s]⟩) := ⟨trivial, rfl, _, rfl⟩
theorem fine_wide (i : Int) : fine (.exc ⟨5, [.int i]⟩) := ⟨trivial, rfl, _, rfl⟩
theorem fine_vec {p : P} (h : plain 1 p = true) : fine (.exc ⟨2, [p]⟩) := ⟨trivial, by
  refine plain_tupI 4 [.bl true, .tup [.str "vector", p]] (by simp) fun x hx => ?_
  simp at hx
  rcases hx with rfl | rfl
  · rfl
  · refine plain_tupI 3 [.str "vector", p] (by simp) fun x hx => ?_
    simp at hx
    rcases hx with rfl | rfl
    · rfl
    · exact plain_up 2 _ (plain_up 1 _ h), _, rfl⟩
theorem fine_num {p : P} (h : plain 0 p = true) (i j : Int) : fine (.exc ⟨1, [p, .int i, .int j]⟩) := ⟨trivial, by
  refine plain_tupI 4 [.bl true, .tup [.str "number", p, .int i, .int j]] (by simp) fun x hx => ?_
  simp at hx
  rcases hx with rfl | rfl
  · rfl
  · refine plain_tupI 3 [.str "number", p, .int i, .int j] (by simp) fun x hx => ?_
    simp at hx
    rcases hx with rfl | rfl | rfl | rfl
    · rfl
    · exact plain_leaf h
    · rfl
    · rfl, _, rfl⟩
theorem due_plain {X : Rs P} (h : fine X) : plain 5 (dueX X) = true := by
  cases X with
  | ok p =>
    refine plain_tupI 4 [.bl false, p] (by simp) fun x hx => ?_
    simp at hx
    rcases hx with rfl | rfl
    · rfl
    · exact h
  | exc x => exact h.2.1
  | bad => cases h
theorem bad_mem {size : Int} : ∀ {l : List P} {least : Int} {g : P} {m : Int}, badAt size least l = some (g, m) → g ∈ l
  | [], _, _, _, h => by cases h
  | x :: r, least, g, m, h => by
    cases x with
    | int i =>
      by_cases hc : least ≤ i ∧ i < size
      · have e : badAt size least (.int i :: r) = badAt size (i + 1) r := by simp [badAt, hc]
        rw [e] at h
        exact List.mem_cons_of_mem _ (bad_mem h)
      · have e : badAt size least (.int i :: r) = some (.int i, least) := by simp only [badAt, if_neg hc]
        rw [e] at h
        cases h
        exact List.mem_cons_self
    | non => cases h; exact List.mem_cons_self
    | bl b => cases h; exact List.mem_cons_self
    | str x => cases h; exact List.mem_cons_self
    | tup xs => cases h; exact List.mem_cons_self
    | lst xs => cases h; exact List.mem_cons_self
    | dic xs => cases h; exact List.mem_cons_self
    | scr xs => cases h; exact List.mem_cons_self
/-- what a door shows: told and due are the same, and the off at the basket is right -/
structure Door (d : Int) (A B gp : P) (v : Vec) (X : Rs P) (asked : P) : Prop where
  fin : fine X
  told : callF D G 20 39 [.int d, A, B, gp] = .ok (dueX X)
  off : ∀ p, X = .ok p → ∃ z, callF D G 20 20 [p, asked] = .ok (.int z) ∧ callF D G 20 50 [.int d, A, B, gp, vP v] = .ok (.int z)
theorem door0 {a b : Tar} {k : Nat} (ha : OkTar k a) (hb : OkTar k b) (gp : P) {v : Vec} (hv : OkBox k v) (hp : ¬ 2000 < prodB v) (he : entB 0 1000000000000000000 v = true) : Door 0 (tarP a) (tarP b) gp v (betterX a b) (vP v) := by
  have hX : callF D G 19 21 [tarP a, tarP b] = betterX a b := e_better 12 ha hb
  have hok : ∀ p, betterX a b = .ok p → a.2 = b.2 ∧ OkTar k (a.1 ++ b.1.tail, a.2) ∧ p = tarP (a.1 ++ b.1.tail, a.2) := fun p h => by
    unfold betterX at h
    by_cases c : a.2 = b.2
    · rw [if_pos c] at h
      by_cases c2 : 400 < a.1.length + (b.1.length - 1)
      · rw [if_pos c2] at h; cases h
      · rw [if_neg c2] at h
        refine ⟨c, ⟨ha.kr, ?_, by simp; omega, fun r hr => ?_, ha.fl, ha.fs⟩, by cases h; rfl⟩
        · obtain ⟨r, hr⟩ := ha.h0
          exact ⟨r ++ b.1.tail, by show a.1 ++ b.1.tail = _; rw [hr]; rfl⟩
        · rcases List.mem_append.mp hr with hr | hr
          · exact ha.hs r hr
          · exact hb.hs r (List.mem_of_mem_tail hr)
    · rw [if_neg c] at h; cases h
  refine ⟨?_, ?_, fun p h => ?_⟩
  · unfold betterX at hok ⊢
    split
    · split
      · exact fine_many 400
      · rename_i c c2
        have := (hok _ (by rw [if_pos c, if_neg c2])).2.1
        exact plain_tar this
    · exact fine_tar _
  · rw [show (20 : Nat) = 19 + 1 from rfl, c__law_told]
    cases h : betterX a b with
    | ok p => exact told0 _ _ _ _ _ (hX.trans h)
    | exc x => exact told0e _ _ _ _ x (hX.trans h) (by
        unfold betterX at h
        split at h
        · split at h
          · cases h; trivial
          · cases h
        · cases h; trivial)
    | bad =>
      unfold betterX at h
      split at h
      · split at h <;> cases h
      · cases h
  · obtain ⟨h1, h2, rfl⟩ := hok p h
    exact ⟨_, e_off_of 14 h2 v hv hp he, by rw [e_due 16 0 ha hb gp hv hp (.inl rfl), if_pos rfl, off_better ha hb h1 (box_V hv)]⟩
theorem door1 {a b : Tar} {k : Nat} (ha : OkTar k a) (hb : OkTar k b) (gp : P) {v : Vec} (hv : OkBox k v) (hp : ¬ 2000 < prodB v) (he : entB 0 1000000000000000000 v = true) : Door 1 (tarP a) (tarP b) gp v (apartX k a b) (vP v) := by
  have hX : callF D G 19 22 [tarP a, tarP b] = apartX k a b := e_apart 12 ha hb
  have hcases : apartX k a b = .exc ⟨4, [.int 400]⟩ ∨ apartX k a b = .exc ⟨4, [.int 12]⟩ ∨ apartX k a b = .exc ⟨3, [.str "heads"]⟩ ∨ (apartX k a b = .ok (tarP (prodR a.1 b.1, a.2 ++ b.2)) ∧ OkTar k (prodR a.1 b.1, a.2 ++ b.2)) := by
    unfold apartX
    by_cases c : 400 < a.1.length * b.1.length
    · rw [if_pos c]; exact .inl rfl
    · rw [if_neg c]
      by_cases c2 : 12 < a.2.length + b.2.length
      · rw [if_pos c2]; exact .inr (.inl rfl)
      · rw [if_neg c2]
        cases hf : (prodR a.1 b.1).find? (badH k) with
        | some x => exact .inr (.inr (.inl rfl))
        | none =>
          refine .inr (.inr (.inr ⟨rfl, ha.kr, prod_h0 ha hb, by show (prodR a.1 b.1).length ≤ 400; rw [prod_len]; omega, fun r hr => ?_, by simp; omega, fun r hr => ?_⟩))
          · have := List.find?_eq_none.mp hf r hr
            unfold badH at this
            simpa using this
          · rcases List.mem_append.mp hr with hr | hr
            · exact ha.fs r hr
            · exact hb.fs r hr
  generalize apartX k a b = X at hX hcases
  refine ⟨?_, ?_, fun p h => ?_⟩
  · rcases hcases with rfl | rfl | rfl | ⟨rfl, h⟩
    · exact fine_many 400
    · exact fine_many 12
    · exact fine_tar _
    · exact plain_tar h
  · rw [show (20 : Nat) = 19 + 1 from rfl, c__law_told]
    rcases hcases with rfl | rfl | rfl | ⟨rfl, h⟩
    · exact told1e _ _ _ _ _ hX trivial
    · exact told1e _ _ _ _ _ hX trivial
    · exact told1e _ _ _ _ _ hX trivial
    · exact told1 _ _ _ _ _ hX
  · rcases hcases with rfl | rfl | rfl | ⟨rfl, h2⟩
    · cases h
    · cases h
    · cases h
    · cases h
      exact ⟨_, e_off_of 14 h2 v hv hp he, by rw [e_due1 16 ha hb gp hv hp, off_apart ha hb (box_V hv)]⟩
theorem prodB_pow {m : Int} (h0 : 0 ≤ m) : ∀ {l : Vec}, (∀ x ∈ l, 0 ≤ x ∧ x ≤ m) → prodB l ≤ (m + 1) ^ l.length
  | [], _ => by simp [prodB]
  | x :: l, h => by
    have hx := h x List.mem_cons_self
    have ih := prodB_pow h0 fun y hy => h y (List.mem_cons_of_mem _ hy)
    have hp := KM.prodB_pos (box := l) fun y hy => (h y (List.mem_cons_of_mem _ hy)).1
    show (x + 1) * prodB l ≤ (m + 1) ^ (l.length + 1)
    rw [Int.pow_succ, Int.mul_comm ((m + 1) ^ l.length)]
    exact Int.mul_le_mul (by omega) ih (by omega) (by omega)
theorem pow_up {m : Int} (h : 1 ≤ m) : ∀ (j k : Nat), j ≤ k → m ^ j ≤ m ^ k := fun j k hjk => by
  obtain ⟨d, rfl⟩ : ∃ d, k = j + d := ⟨k - j, by omega⟩
  induction d with
  | zero => exact Int.le_refl _
  | succ d ih =>
    have := ih (by omega)
    rw [← Nat.add_assoc, Int.pow_succ]
    have hp : 0 ≤ m ^ (j + d) := Int.pow_nonneg (by omega)
    have : m ^ (j + d) * 1 ≤ m ^ (j + d) * m := Int.mul_le_mul_of_nonneg_left h hp
    omega
theorem door2 {a : Tar} {k : Nat} (ha : OkTar k a) (B : P) (gp : P) (hgp : plain 1 gp = true) {v : Vec} (hv : OkBox k v) (hp : ¬ 2000 < prodB v) (m : Int) (hm0 : 0 ≤ m) (hmv : ∀ x ∈ v, x ≤ m) (hmk : (m + 1) ^ k ≤ 2000) :
    fine (projX k a gp) ∧ callF D G 20 39 [.int 2, tarP a, B, gp] = .ok (dueX (projX k a gp)) ∧ ∀ p, projX k a gp = .ok p → ∃ gs : List Int, gp = .tup (gs.map .int) ∧ (∀ g ∈ gs, 0 ≤ g ∧ g < (k : Int)) ∧ gs.length ≤ 4 ∧
      ∃ z, callF D G 20 20 [p, vP (prV gs v)] = .ok (.int z) ∧ callF D G 20 50 [.int 2, tarP a, B, gp, vP v] = .ok (.int z) := by
  have hX : callF D G 19 24 [tarP a, gp] = projX k a gp := e_project 13 ha gp hgp
  have hcases : projX k a gp = .exc ⟨2, [gp]⟩ ∨ (∃ g m, plain 0 g = true ∧ projX k a gp = .exc ⟨1, [g, .int m, .int (k - 1)]⟩) ∨ (∃ gs : List Int, gs ≠ [] ∧ gp = .tup (gs.map .int) ∧ ascI k 0 gs ∧ projX k a gp = .ok (tarP (projR gs a.1, projR gs a.2))) := by
    cases gp with
    | non => exact .inl rfl
    | bl b => exact .inl rfl
    | int i => exact .inl rfl
    | str x => exact .inl rfl
    | lst xs => exact .inl rfl
    | dic xs => exact .inl rfl
    | scr xs => exact .inl rfl
    | tup gs =>
      have hp' : (decide (gs.length ≤ 1000) && gs.all (plain 0)) = true := hgp
      rw [Bool.and_eq_true, decide_eq_true_iff, List.all_eq_true] at hp'
      cases gs with
      | nil => exact .inl rfl
      | cons g0 gr =>
        generalize hgs : g0 :: gr = gs at *
        have hne : gs ≠ [] := by rw [← hgs]; simp
        have ep : projX k a (.tup gs) = (match badAt k 0 gs with
          | some (g, m) => .exc ⟨1, [g, .int m, .int (k - 1)]⟩
          | none => .ok (tarP (projR ((intsL gs).getD []) a.1, projR ((intsL gs).getD []) a.2))) := by
          rw [← hgs]; rfl
        rw [ep]
        cases hb : badAt k 0 gs with
        | some gm =>
          obtain ⟨g, m⟩ := gm
          exact .inr (.inl ⟨g, m, hp'.2 g (bad_mem hb), rfl⟩)
        | none =>
          obtain ⟨is, rfl, hasc⟩ := bad_none hb
          refine .inr (.inr ⟨is, fun e => hne (by rw [e]; rfl), rfl, hasc, ?_⟩)
          simp only [intsL_map]
          rfl
  generalize hXe : projX k a gp = X at hX hcases
  refine ⟨?_, ?_, fun p h => ?_⟩
  · rcases hcases with rfl | ⟨g, m, hg, rfl⟩ | ⟨gs, hne, rfl, hasc, rfl⟩
    · exact fine_vec hgp
    · exact fine_num hg _ _
    · exact plain_tar (proj_tar hasc hne ha)
  · rw [show (20 : Nat) = 19 + 1 from rfl, c__law_told]
    rcases hcases with rfl | ⟨g, m, hg, rfl⟩ | ⟨gs, hne, rfl, hasc, rfl⟩
    · exact told2e _ _ _ _ _ hX trivial
    · exact told2e _ _ _ _ _ hX trivial
    · exact told2 _ _ _ _ _ hX
  · rcases hcases with rfl | ⟨g, m, hg, rfl⟩ | ⟨gs, hne, rfl, hasc, rfl⟩
    · cases h
    · cases h
    · cases h
      have hm := asc_mem hasc
      have hl := asc_len hasc (by omega)
      have hkk := ha.kr
      have hw := wide_box (gs := gs) hv
      have hbx : OkBox gs.length (prV gs v) := ⟨by simp, fun x hx => by
        obtain ⟨g, hg, rfl⟩ := List.mem_map.mp hx
        have := hm g hg
        exact hv.sm _ (List.mem_of_getElem? (getD_at (a := v) (i := g.toNat) (by rw [hv.len]; omega))), by omega⟩
      have hent : entB 0 1000000000000000000 (prV gs v) = true := by
        unfold entB
        rw [List.all_eq_true]
        intro x hx
        have := hbx.sm x hx
        rw [Bool.and_eq_true]
        exact ⟨decide_eq_true this.1, decide_eq_true (by omega)⟩
      have hpb : ¬ 2000 < prodB (prV gs v) := by
        have h1 := prodB_pow hm0 (l := prV gs v) fun x hx => by
          obtain ⟨g, hg, rfl⟩ := List.mem_map.mp hx
          have := hm g hg
          exact ⟨gN_nn hv.nn g, hmv _ (List.mem_of_getElem? (getD_at (a := v) (i := g.toNat) (by rw [hv.len]; omega)))⟩
        have h2 : (prV gs v).length = gs.length := by simp
        rw [h2] at h1
        have h3 := pow_up (m := m + 1) (by omega) gs.length k (by omega)
        omega
      refine ⟨gs, rfl, hm, by omega, _, e_off_of 14 (proj_tar hasc hne ha) (prV gs v) hbx hpb hent, ?_⟩
      rw [e_due2 16 ha B gs hv hp]
      have := off_project hasc ha (box_V hw) (wide_off hv.len)
      rw [wide_pr hv.len hm] at this
      rw [← this]
theorem door3 {a b : Tar} {k : Nat} (ha : OkTar k a) (hb : OkTar k b) (gp : P) {v : Vec} (hv : OkBox k v) (hp : ¬ 2000 < prodB v) (he : entB 0 1000000000000000000 v = true) : Door 3 (tarP a) (tarP b) gp v (trimX k a) (vP v) ∧ ∀ p, trimX k a = .ok p → callF D G 20 44 [p] = .ok (.bl true) := by
  have hX : callF D G 19 25 [tarP a] = trimX k a := e_trim 13 ha
  obtain ⟨t1, t2, t3, t4⟩ := trim_all ha
  obtain ⟨hbox, hin⟩ := box_ok ha
  have hcases : trimX k a = .exc ⟨5, [.int 2000]⟩ ∨ (¬ 2000 < prodB (boxR k a.1) ∧ trimX k a = .ok (tarP (trimF (TT a.2) a.1 (a.1.length - 1) [], a.2))) := by
    unfold trimX
    by_cases c : 2000 < prodB (boxR k a.1)
    · rw [if_pos c]; exact .inl rfl
    · rw [if_neg c]; exact .inr ⟨c, rfl⟩
  generalize trimX k a = X at hX hcases
  refine ⟨⟨?_, ?_, fun p h => ?_⟩, fun p h => ?_⟩
  · rcases hcases with rfl | ⟨_, rfl⟩
    · exact fine_wide 2000
    · exact plain_tar t1
  · rw [show (20 : Nat) = 19 + 1 from rfl, c__law_told]
    rcases hcases with rfl | ⟨_, rfl⟩
    · exact told3e _ _ _ _ _ hX trivial
    · exact told3 _ _ _ _ _ hX
  · rcases hcases with rfl | ⟨_, rfl⟩
    · cases h
    · cases h
      exact ⟨_, e_off_of 14 t1 v hv hp he, by rw [e_due 16 3 ha hb gp hv hp (.inr rfl), if_neg (by omega), t3 v (box_V hv)]⟩
  · rcases hcases with rfl | ⟨hc, rfl⟩
    · cases h
    · cases h
      refine e_lneeded 17 t1 (fun r hr => ?_) t4
      obtain ⟨i1, i2, i3⟩ := hin r (t2 r hr)
      have := prodB_le i1 i2 i3
      omega
end K50
end

section
set_option Elab.async false
set_option linter.all false
set_option maxRecDepth 100000
set_option maxHeartbeats 4000000
/-! K50P20: the pure statement. -/
namespace K50
open PL
open KM (Vec Row addV subV leV members placeV prodB ext1 nonneg offF TT)
theorem same_due {X : Rs P} (h : fine X) : callF D G 20 27 [dueX X, dueX X] = .ok (.bl true) := e_lsame 5 _ (due_plain h) 14
theorem same_int (z : Int) : callF D G 20 27 [.int z, .int z] = .ok (.bl true) := e_lsame 0 (.int z) rfl 19
/-- what is at the first place of what is due -/
theorem due_at {X : Rs P} (h : fine X) : (∃ p, X = .ok p ∧ dueX X = .tup [.bl false, p]) ∨ (∃ p, dueX X = .tup [.bl true, p] ∧ ∀ q, X ≠ .ok q) := by
  cases X with
  | ok p => exact .inl ⟨p, rfl, rfl⟩
  | exc x =>
    obtain ⟨p, hp⟩ := h.2.2
    exact .inr ⟨p, hp, fun q e => by cases e⟩
  | bad => cases h
theorem basket_ok {size : Nat} (hs : 1 ≤ size) (hs3 : size ≤ 3) {v : Vec} (hl : v.length = size) (m : Int) (hm : (size = 1 ∧ m = 40) ∨ (size = 2 ∧ m = 8) ∨ (size = 3 ∧ m = 4)) (hv : ∀ x ∈ v, 0 ≤ x ∧ x < m) :
    OkBox size v ∧ ¬ 2000 < prodB v ∧ entB 0 1000000000000000000 v = true ∧ (∀ x ∈ v, x ≤ m - 1) ∧ (m - 1 + 1) ^ size ≤ 2000 := by
  have hm40 : 1 ≤ m ∧ m ≤ 40 := by omega
  have hpw : (m - 1 + 1) ^ size ≤ 2000 := by rcases hm with ⟨rfl, rfl⟩ | ⟨rfl, rfl⟩ | ⟨rfl, rfl⟩ <;> decide
  have h1 := prodB_pow (m := m - 1) (by omega) (l := v) fun x hx => ⟨(hv x hx).1, by have := (hv x hx).2; omega⟩
  rw [hl] at h1
  refine ⟨⟨hl, fun x hx => ⟨(hv x hx).1, by have := (hv x hx).2; omega⟩, by omega⟩, by omega, ?_, fun x hx => by have := (hv x hx).2; omega, hpw⟩
  unfold entB
  rw [List.all_eq_true]
  intro x hx
  have := hv x hx
  rw [Bool.and_eq_true]
  exact ⟨decide_eq_true this.1, decide_eq_true (by omega)⟩
theorem pure (s : List Int) (hs : s.length ≤ 63) : callF D G 21 51 [.scr (s.map .int)] = .ok (.bl true) := by
  rw [show (21 : Nat) = 20 + 1 from rfl, c_law, w_run]
  obtain ⟨n0, l0, b0, e0⟩ := e_lnumbers 19 s 0 60 (by omega) (by omega)
  obtain ⟨n1, l1, b1, e1⟩ := e_lnumbers 19 s 1 44 (by omega) (by omega)
  obtain ⟨n2, l2, b2, e2⟩ := e_lnumbers 19 s 2 24 (by omega) (by omega)
  obtain ⟨size, hsz⟩ := nat_of (x := 1 + gN n0 0 % 3) (by omega)
  have hs1 : 1 ≤ size := by omega
  have hs3 : size ≤ 3 := by omega
  obtain ⟨a, b, ha, hb, ep⟩ := e_lpair 17 n0 size l0 b0 hs1 hs3
  obtain ⟨t, ht, et⟩ := e_lheady 17 n1 size l1 b1 hs1 hs3
  obtain ⟨gp, hgp, eg⟩ := e_lgoods 19 n2 size l2 b2 hs1 hs3
  obtain ⟨m, hm, em⟩ : ∃ m : Int, ((size = 1 ∧ m = 40) ∨ (size = 2 ∧ m = 8) ∨ (size = 3 ∧ m = 4)) ∧ atL [.int 40, .int 8, .int 4] ((size : Int) - 1) = .ok (.int m) := by
    have : size = 1 ∨ size = 2 ∨ size = 3 := by omega
    rcases this with rfl | rfl | rfl
    · exact ⟨40, .inl ⟨rfl, rfl⟩, at_0 _ _⟩
    · exact ⟨8, .inr (.inl ⟨rfl, rfl⟩), at_1 _ _ _⟩
    · exact ⟨4, .inr (.inr ⟨rfl, rfl⟩), at_2 _ _ _ _⟩
  have hm0 : 0 < m := by omega
  obtain ⟨v, hv⟩ : ∃ v : Vec, v = (List.range size).map fun (i : Nat) => gN n2 (20 + (i : Int)) % m := ⟨_, rfl⟩
  have hvb : ∀ x ∈ v, 0 ≤ x ∧ x < m := fun x hx => by
    rw [hv] at hx
    obtain ⟨i, _, rfl⟩ := List.mem_map.mp hx
    exact ⟨Int.emod_nonneg _ (by omega), Int.emod_lt_of_pos _ hm0⟩
  obtain ⟨kb, kp, ke, km, kw⟩ := basket_ok hs1 hs3 (v := v) (by rw [hv]; simp) m hm hvb
  have d0 := door0 ha hb gp kb kp ke
  have d1 := door1 ha hb gp kb kp ke
  obtain ⟨f2, t2, o2⟩ := door2 ha (tarP b) gp hgp kb kp (m - 1) (by omega) km kw
  obtain ⟨d3, g3⟩ := door3 ht hb gp kb kp ke
  have x0 : callF D G 20 40 [tarP a, tarP b] = .ok (dueX (betterX a b)) := by
    rw [e_lbetter 19 ha hb]
    unfold betterX
    split
    · split <;> rfl
    · rfl
  have x1 : callF D G 20 41 [tarP a, tarP b] = .ok (dueX (apartX size a b)) := by
    rw [e_lapart 18 ha hb]
    cases apartX size a b <;> rfl
  have x2 : callF D G 20 42 [tarP a, gp] = .ok (dueX (projX size a gp)) := by
    rw [e_lproject 19 ha gp hgp]
    cases projX size a gp <;> rfl
  have x3 : callF D G 20 43 [tarP t] = .ok (dueX (trimX size t)) := by
    rw [e_ltrim 17 ht]
    cases trimX size t <;> rfl
  have s0 := same_due d0.fin
  have s1 := same_due d1.fin
  have s2 := same_due f2
  have s3 := same_due d3.fin
  have sI := same_int
  have w0 := d0.told
  have w1 := d1.told
  have w3 := d3.told
  have q0 := d0.off
  have q1 := d1.off
  have q3 := d3.off
  have c0 := due_at d0.fin
  have c1 := due_at d1.fin
  have c2 := due_at f2
  have c3 := due_at d3.fin
  clear d0 d1 d3 f2
  generalize betterX a b = X0 at *
  generalize apartX size a b = X1 at *
  generalize projX size a gp = X2 at *
  generalize trimX size t = X3 at *
  generalize callF D G 20 = Γ at *
  have hrs : rngOk (size : Int) = true := rng_ok (by omega) (by omega)
  have hrs2 : (size : Int) ≤ 16777216 := by omega
  have hr4 : rngOk (4 : Int) = true := rng_ok (by omega) (by omega)
  simp at e0 e1 e2
  simp [i_law, PL.start, e0, e1, e2, at_get, l0, hsz, ep, et, eg, hrs, hrs2, rngL_one, at_1]
  rw [compP_map (inj := fun (i : Nat) => P.int (i : Int)) (g := fun (i : Nat) => .int (gN n2 (20 + (i : Int)) % m)) (l := List.range size) _ (fun i hi => by
    have hi := List.mem_range.mp hi
    have h1 := at_get (ns := n2) (j := 20 + (i : Int)) (by omega) (by omega)
    simp [h1, em, hm0])]
  have ev : P.tup ((List.range size).map fun (i : Nat) => P.int (gN n2 (20 + (i : Int)) % m)) = vP v := by rw [hv]; simp [vP, Function.comp_def]
  simp only [kLst_0, kEvs_0, kCons_0, kBlt_0, w_18, tuple_l, ev]
  simp [ev, x0, x1, x2, x3, hr4]
  have r4 : rngL 0 4 1 = [.int 0, .int 1, .int 2, .int 3] := rfl
  rw [r4]
  generalize hst : lSt _ _ _ _ _ = step
  have z0 : step (.int 0) [.fz (.scr (s.map .int)), .fz (.lst (n2.map .int)), .fz (.int size), .fz (.tup [tarP a, tarP b]), .fz (tarP a), .fz (tarP b), .fz (tarP t), .fz gp, .fz (vP v), .fz (.lst [dueX X0, dueX X1, dueX X2, dueX X3]), .un, .un, .un, .un, .un, .un] =
      .ok (.nx [.fz (.scr (s.map .int)), .fz (.lst (n2.map .int)), .fz (.int size), .fz (.tup [tarP a, tarP b]), .fz (tarP a), .fz (tarP b), .fz (tarP t), .fz gp, .fz (vP v), .fz (.lst [dueX X0, dueX X1, dueX X2, dueX X3]), .un, .un, .un, .un, .un, .un]) := by
    rw [← hst]
    rcases c0 with ⟨p, hp, ed⟩ | ⟨p, ed, _⟩
    · obtain ⟨z, h1, h2⟩ := q0 p hp
      rw [ed] at w0 s0 ⊢
      simp [w0, s0, h1, h2, sI, at_1]
    · rw [ed] at w0 s0 ⊢
      simp [w0, s0]
  have z1 : step (.int 1) [.fz (.scr (s.map .int)), .fz (.lst (n2.map .int)), .fz (.int size), .fz (.tup [tarP a, tarP b]), .fz (tarP a), .fz (tarP b), .fz (tarP t), .fz gp, .fz (vP v), .fz (.lst [dueX X0, dueX X1, dueX X2, dueX X3]), .un, .un, .un, .un, .un, .un] =
      .ok (.nx [.fz (.scr (s.map .int)), .fz (.lst (n2.map .int)), .fz (.int size), .fz (.tup [tarP a, tarP b]), .fz (tarP a), .fz (tarP b), .fz (tarP t), .fz gp, .fz (vP v), .fz (.lst [dueX X0, dueX X1, dueX X2, dueX X3]), .un, .un, .un, .un, .un, .un]) := by
    rw [← hst]
    rcases c1 with ⟨p, hp, ed⟩ | ⟨p, ed, _⟩
    · obtain ⟨z, h1, h2⟩ := q1 p hp
      rw [ed] at w1 s1 ⊢
      simp [w1, s1, h1, h2, sI, at_1]
    · rw [ed] at w1 s1 ⊢
      simp [w1, s1, at_1]
  have z2 : step (.int 2) [.fz (.scr (s.map .int)), .fz (.lst (n2.map .int)), .fz (.int size), .fz (.tup [tarP a, tarP b]), .fz (tarP a), .fz (tarP b), .fz (tarP t), .fz gp, .fz (vP v), .fz (.lst [dueX X0, dueX X1, dueX X2, dueX X3]), .un, .un, .un, .un, .un, .un] =
      .ok (.nx [.fz (.scr (s.map .int)), .fz (.lst (n2.map .int)), .fz (.int size), .fz (.tup [tarP a, tarP b]), .fz (tarP a), .fz (tarP b), .fz (tarP t), .fz gp, .fz (vP v), .fz (.lst [dueX X0, dueX X1, dueX X2, dueX X3]), .un, .un, .un, .un, .un, .un]) := by
    rw [← hst]
    rcases c2 with ⟨p, hp, ed⟩ | ⟨p, ed, _⟩
    · obtain ⟨gs, rfl, hgs, _, z, h1, h2⟩ := o2 p hp
      rw [ed] at t2 s2 ⊢
      simp [t2, s2, at_1, at_2, vP]
      rw [compP_map (inj := P.int) (g := fun g => .int (gN v g)) (l := gs) _ (fun g hg => by
        have := hgs g hg
        have := at_get (ns := v) (j := g) (by omega) (by rw [kb.len]; omega)
        simp [this])]
      have ew : P.tup (gs.map fun g => P.int (gN v g)) = vP (prV gs v) := by simp [vP, Function.comp_def]
      simp only [vP] at h2
      simp only [kLst_0, kEvs_0, kCons_0, kBlt_0, w_18, tuple_l, ew]
      simp [h1, h2, sI, at_1]
    · rw [ed] at t2 s2 ⊢
      simp [t2, s2, at_2]
  have z3 : step (.int 3) [.fz (.scr (s.map .int)), .fz (.lst (n2.map .int)), .fz (.int size), .fz (.tup [tarP a, tarP b]), .fz (tarP a), .fz (tarP b), .fz (tarP t), .fz gp, .fz (vP v), .fz (.lst [dueX X0, dueX X1, dueX X2, dueX X3]), .un, .un, .un, .un, .un, .un] =
      .ok (.nx [.fz (.scr (s.map .int)), .fz (.lst (n2.map .int)), .fz (.int size), .fz (.tup [tarP a, tarP b]), .fz (tarP a), .fz (tarP b), .fz (tarP t), .fz gp, .fz (vP v), .fz (.lst [dueX X0, dueX X1, dueX X2, dueX X3]), .un, .un, .un, .un, .un, .un]) := by
    rw [← hst]
    rcases c3 with ⟨p, hp, ed⟩ | ⟨p, ed, _⟩
    · obtain ⟨z, h1, h2⟩ := q3 p hp
      rw [ed] at w3 s3 ⊢
      simp [w3, s3, h1, h2, sI, at_1, at_3]
    · rw [ed] at w3 s3 ⊢
      simp [w3, s3, at_3]
  have zf : forP step [.int 0, .int 1, .int 2, .int 3] [.fz (.scr (s.map .int)), .fz (.lst (n2.map .int)), .fz (.int size), .fz (.tup [tarP a, tarP b]), .fz (tarP a), .fz (tarP b), .fz (tarP t), .fz gp, .fz (vP v), .fz (.lst [dueX X0, dueX X1, dueX X2, dueX X3]), .un, .un, .un, .un, .un, .un] =
      .ok (.nx [.fz (.scr (s.map .int)), .fz (.lst (n2.map .int)), .fz (.int size), .fz (.tup [tarP a, tarP b]), .fz (tarP a), .fz (tarP b), .fz (tarP t), .fz gp, .fz (vP v), .fz (.lst [dueX X0, dueX X1, dueX X2, dueX X3]), .un, .un, .un, .un, .un, .un]) := by
    simp only [forP, z0, z1, z2, z3, seqO_nx]
  rw [zf]
  rcases c3 with ⟨p, hp, ed⟩ | ⟨p, ed, _⟩
  · rw [ed]
    simp [at_3, at_1, g3 p hp]
  · rw [ed]
    simp [at_3]
end K50
end

section
set_option Elab.async false
set_option linter.all false
set_option maxRecDepth 100000
set_option maxHeartbeats 0
/-! law_k50_algebra: the tables, printed by gen.py -/
namespace K50
open PySem PySem.Spec PL
def top (i : Nat) : Stmt := PySem.Challenge.pw_offerbook_k50_algebra.main.body.getD i (.Pass ⟨0, 0, 0, 0⟩)
def dp_is_integer : DefP := ⟨"is_integer", ["value"], ["value"], top 17⟩
def dp_is_number : DefP := ⟨"is_number", ["value", "low", "high"], ["value", "low", "high"], top 18⟩
def dp_zero : DefP := ⟨"zero", ["size"], ["size"], top 20⟩
def dp_plus : DefP := ⟨"plus", ["a", "b", "x", "y"], ["a", "b"], top 21⟩
def dp_minus : DefP := ⟨"minus", ["a", "b", "x", "y"], ["a", "b"], top 22⟩
def dp_top : DefP := ⟨"top", ["a", "b", "x", "y"], ["a", "b"], top 23⟩
def dp_total : DefP := ⟨"total", ["a"], ["a"], top 24⟩
def dp_fits : DefP := ⟨"fits", ["a", "b", "x", "y"], ["a", "b"], top 25⟩
def dp_cells : DefP := ⟨"cells", ["box", "count", "most"], ["box"], top 26⟩
def dp_place : DefP := ⟨"place", ["vector", "box", "index", "entry", "most"], ["vector", "box"], top 27⟩
def dp_vectors_within : DefP := ⟨"vectors_within", ["box", "found", "most", "vector", "entry"], ["box"], top 28⟩
def dp_is_vector : DefP := ⟨"is_vector", ["value", "size", "entry"], ["value", "size"], top 29⟩
def dp_check_vector : DefP := ⟨"check_vector", ["value", "size"], ["value", "size"], top 30⟩
def dp_first_size : DefP := ⟨"first_size", ["head", "vector", "off", "entry"], ["head"], top 32⟩
def dp_is_row : DefP := ⟨"is_row", ["row", "size", "most", "low", "high", "vector", "off", "entry"], ["row", "size", "most", "low", "high"], top 33⟩
def dp_is_standing : DefP := ⟨"is_standing", ["form", "size"], ["form", "size"], top 34⟩
def dp_check_tariff : DefP := ⟨"check_tariff", ["tariff", "size", "head", "form", "heads", "forms"], ["tariff"], top 35⟩
def dp_check_two : DefP := ⟨"check_two", ["first", "second", "size"], ["first", "second"], top 36⟩
def dp_table : DefP := ⟨"table", ["forms", "box", "values", "vector", "best", "taken", "off"], ["forms", "box"], top 38⟩
def dp_best_off : DefP := ⟨"best_off", ["heads", "basket", "box", "values", "best", "taken", "off"], ["heads", "basket", "box", "values"], top 39⟩
def dp_off_of : DefP := ⟨"off_of", ["tariff", "basket"], ["tariff", "basket"], top 40⟩
def dp_better : DefP := ⟨"better", ["first", "second", "heads"], ["first", "second"], top 42⟩
def dp_apart : DefP := ⟨"apart", ["first", "second", "heads", "whole", "vector", "off", "other", "given"], ["first", "second"], top 43⟩
def dp_picked : DefP := ⟨"picked", ["rows", "at", "found", "vector", "off", "part", "good"], ["rows", "at"], top 44⟩
def dp_project : DefP := ⟨"project", ["tariff", "at", "size", "least", "good"], ["tariff", "at"], top 45⟩
def dp_trim : DefP := ⟨"trim", ["tariff", "size", "box", "head", "values", "kept", "at", "heads", "forms", "others"], ["tariff"], top 46⟩
def dp__law_numbers : DefP := ⟨"_law_numbers", ["script", "k", "many", "cell", "left", "mixed", "numbers", "at"], ["script", "k", "many"], top 48⟩
def dp__law_same : DefP := ⟨"_law_same", ["told", "due", "k"], ["told", "due"], top 49⟩
def dp__law_unit : DefP := ⟨"_law_unit", ["size", "at", "k"], ["size", "at"], top 50⟩
def dp__law_plus : DefP := ⟨"_law_plus", ["a", "b", "k"], ["a", "b"], top 51⟩
def dp__law_minus : DefP := ⟨"_law_minus", ["a", "b", "k"], ["a", "b"], top 52⟩
def dp__law_fits : DefP := ⟨"_law_fits", ["a", "b", "k"], ["a", "b"], top 53⟩
def dp__law_cells : DefP := ⟨"_law_cells", ["box", "cells_v", "most"], ["box"], top 54⟩
def dp__law_members : DefP := ⟨"_law_members", ["box", "found", "most", "longer", "one", "entry"], ["box"], top 55⟩
def dp__law_most : DefP := ⟨"_law_most", ["forms", "box", "most", "w", "best", "form"], ["forms", "box"], top 56⟩
def dp__law_off : DefP := ⟨"_law_off", ["heads", "most", "basket", "best", "head"], ["heads", "most", "basket"], top 57⟩
def dp__law_vector : DefP := ⟨"_law_vector", ["numbers", "at", "size", "most", "k"], ["numbers", "at", "size", "most"], top 58⟩
def dp__law_forms : DefP := ⟨"_law_forms", ["numbers", "at", "many", "size", "most", "high", "forms", "k", "start", "vector"], ["numbers", "at", "many", "size", "most", "high"], top 59⟩
def dp__law_heads : DefP := ⟨"_law_heads", ["numbers", "at", "many", "size", "most", "high", "heads", "k", "start"], ["numbers", "at", "many", "size", "most", "high"], top 60⟩
def dp__law_told : DefP := ⟨"_law_told", ["door", "first", "second", "goods", "e"], ["door", "first", "second", "goods"], top 61⟩
def dp__law_better : DefP := ⟨"_law_better", ["first", "second"], ["first", "second"], top 62⟩
def dp__law_apart : DefP := ⟨"_law_apart", ["first", "second", "heads", "head", "other"], ["first", "second"], top 63⟩
def dp__law_project : DefP := ⟨"_law_project", ["tariff", "goods", "size", "least", "good", "found", "rows", "part", "row", "entries"], ["tariff", "goods"], top 64⟩
def dp__law_trim : DefP := ⟨"_law_trim", ["tariff", "heads", "box", "head", "most", "kept", "k", "at", "others", "other"], ["tariff"], top 65⟩
def dp__law_needed : DefP := ⟨"_law_needed", ["tariff", "at", "head", "others"], ["tariff"], top 66⟩
def dp__law_many : DefP := ⟨"_law_many", ["many", "size", "heads", "k", "good"], ["many", "size"], top 67⟩
def dp__law_pair : DefP := ⟨"_law_pair", ["numbers", "size", "heads", "others", "forms", "more", "style", "many", "great", "k"], ["numbers", "size"], top 68⟩
def dp__law_heady : DefP := ⟨"_law_heady", ["numbers", "size", "heads", "forms", "k", "start", "head", "form", "at", "part", "great"], ["numbers", "size"], top 69⟩
def dp__law_goods : DefP := ⟨"_law_goods", ["numbers", "size", "goods", "at", "k"], ["numbers", "size"], top 70⟩
def dp__law_split : DefP := ⟨"_law_split", ["first", "second", "basket", "left", "right", "best", "part", "other"], ["first", "second", "basket"], top 71⟩
def dp__law_due_off : DefP := ⟨"_law_due_off", ["door", "tariff", "second", "goods", "basket", "wide", "one", "k"], ["door", "tariff", "second", "goods", "basket"], top 72⟩
def dp_law : DefP := ⟨"law", ["script", "numbers", "size", "pair", "first", "second", "trimmed", "goods", "basket", "dues", "door", "tariff", "due", "asked", "k", "good"], ["script"], top 73⟩
def dps0 : List DefP := [dp_is_integer, dp_is_number, dp_zero, dp_plus, dp_minus, dp_top, dp_total, dp_fits, dp_cells, dp_place, dp_vectors_within, dp_is_vector, dp_check_vector, dp_first_size, dp_is_row, dp_is_standing, dp_check_tariff, dp_check_two, dp_table, dp_best_off]
def dps1 : List DefP := [dp_off_of, dp_better, dp_apart, dp_picked, dp_project, dp_trim, dp__law_numbers, dp__law_same, dp__law_unit, dp__law_plus, dp__law_minus, dp__law_fits, dp__law_cells, dp__law_members, dp__law_most, dp__law_off, dp__law_vector, dp__law_forms, dp__law_heads, dp__law_told]
def dps2 : List DefP := [dp__law_better, dp__law_apart, dp__law_project, dp__law_trim, dp__law_needed, dp__law_many, dp__law_pair, dp__law_heady, dp__law_goods, dp__law_split, dp__law_due_off, dp_law]
def dps : List DefP := dps0 ++ dps1 ++ dps2
def xp_BadNumber : ExP := ⟨"BadNumber", ["number", "low", "high"], inCls (top 2) 0⟩
def xp_BadVector : ExP := ⟨"BadVector", ["vector"], inCls (top 3) 0⟩
def xp_BadTariff : ExP := ⟨"BadTariff", ["reason"], inCls (top 4) 0⟩
def xp_TooMany : ExP := ⟨"TooMany", ["limit"], inCls (top 5) 0⟩
def xp_TooWide : ExP := ⟨"TooWide", ["limit"], inCls (top 6) 0⟩
def exs : List (Option ExP) := [none, some xp_BadNumber, some xp_BadVector, some xp_BadTariff, some xp_TooMany, some xp_TooWide]
def tab : Tab := ⟨dps, fnL, glL, exs⟩
theorem b_is_integer : BindOk dp_is_integer := fun kV doc pm an cdv ct us hl => match us, hl with | [_], _ => rfl
theorem b_is_number : BindOk dp_is_number := fun kV doc pm an cdv ct us hl => match us, hl with | [_, _, _], _ => rfl
theorem b_zero : BindOk dp_zero := fun kV doc pm an cdv ct us hl => match us, hl with | [_], _ => rfl
theorem b_plus : BindOk dp_plus := fun kV doc pm an cdv ct us hl => match us, hl with | [_, _], _ => rfl
theorem b_minus : BindOk dp_minus := fun kV doc pm an cdv ct us hl => match us, hl with | [_, _], _ => rfl
theorem b_top : BindOk dp_top := fun kV doc pm an cdv ct us hl => match us, hl with | [_, _], _ => rfl
theorem b_total : BindOk dp_total := fun kV doc pm an cdv ct us hl => match us, hl with | [_], _ => rfl
theorem b_fits : BindOk dp_fits := fun kV doc pm an cdv ct us hl => match us, hl with | [_, _], _ => rfl
theorem b_cells : BindOk dp_cells := fun kV doc pm an cdv ct us hl => match us, hl with | [_], _ => rfl
theorem b_place : BindOk dp_place := fun kV doc pm an cdv ct us hl => match us, hl with | [_, _], _ => rfl
theorem b_vectors_within : BindOk dp_vectors_within := fun kV doc pm an cdv ct us hl => match us, hl with | [_], _ => rfl
theorem b_is_vector : BindOk dp_is_vector := fun kV doc pm an cdv ct us hl => match us, hl with | [_, _], _ => rfl
theorem b_check_vector : BindOk dp_check_vector := fun kV doc pm an cdv ct us hl => match us, hl with | [_, _], _ => rfl
theorem b_first_size : BindOk dp_first_size := fun kV doc pm an cdv ct us hl => match us, hl with | [_], _ => rfl
theorem b_is_row : BindOk dp_is_row := fun kV doc pm an cdv ct us hl => match us, hl with | [_, _, _, _, _], _ => rfl
theorem b_is_standing : BindOk dp_is_standing := fun kV doc pm an cdv ct us hl => match us, hl with | [_, _], _ => rfl
theorem b_check_tariff : BindOk dp_check_tariff := fun kV doc pm an cdv ct us hl => match us, hl with | [_], _ => rfl
theorem b_check_two : BindOk dp_check_two := fun kV doc pm an cdv ct us hl => match us, hl with | [_, _], _ => rfl
theorem b_table : BindOk dp_table := fun kV doc pm an cdv ct us hl => match us, hl with | [_, _], _ => rfl
theorem b_best_off : BindOk dp_best_off := fun kV doc pm an cdv ct us hl => match us, hl with | [_, _, _, _], _ => rfl
theorem b_off_of : BindOk dp_off_of := fun kV doc pm an cdv ct us hl => match us, hl with | [_, _], _ => rfl
theorem b_better : BindOk dp_better := fun kV doc pm an cdv ct us hl => match us, hl with | [_, _], _ => rfl
theorem b_apart : BindOk dp_apart := fun kV doc pm an cdv ct us hl => match us, hl with | [_, _], _ => rfl
theorem b_picked : BindOk dp_picked := fun kV doc pm an cdv ct us hl => match us, hl with | [_, _], _ => rfl
theorem b_project : BindOk dp_project := fun kV doc pm an cdv ct us hl => match us, hl with | [_, _], _ => rfl
theorem b_trim : BindOk dp_trim := fun kV doc pm an cdv ct us hl => match us, hl with | [_], _ => rfl
theorem b__law_numbers : BindOk dp__law_numbers := fun kV doc pm an cdv ct us hl => match us, hl with | [_, _, _], _ => rfl
theorem b__law_same : BindOk dp__law_same := fun kV doc pm an cdv ct us hl => match us, hl with | [_, _], _ => rfl
theorem b__law_unit : BindOk dp__law_unit := fun kV doc pm an cdv ct us hl => match us, hl with | [_, _], _ => rfl
theorem b__law_plus : BindOk dp__law_plus := fun kV doc pm an cdv ct us hl => match us, hl with | [_, _], _ => rfl
theorem b__law_minus : BindOk dp__law_minus := fun kV doc pm an cdv ct us hl => match us, hl with | [_, _], _ => rfl
theorem b__law_fits : BindOk dp__law_fits := fun kV doc pm an cdv ct us hl => match us, hl with | [_, _], _ => rfl
theorem b__law_cells : BindOk dp__law_cells := fun kV doc pm an cdv ct us hl => match us, hl with | [_], _ => rfl
theorem b__law_members : BindOk dp__law_members := fun kV doc pm an cdv ct us hl => match us, hl with | [_], _ => rfl
theorem b__law_most : BindOk dp__law_most := fun kV doc pm an cdv ct us hl => match us, hl with | [_, _], _ => rfl
theorem b__law_off : BindOk dp__law_off := fun kV doc pm an cdv ct us hl => match us, hl with | [_, _, _], _ => rfl
theorem b__law_vector : BindOk dp__law_vector := fun kV doc pm an cdv ct us hl => match us, hl with | [_, _, _, _], _ => rfl
theorem b__law_forms : BindOk dp__law_forms := fun kV doc pm an cdv ct us hl => match us, hl with | [_, _, _, _, _, _], _ => rfl
theorem b__law_heads : BindOk dp__law_heads := fun kV doc pm an cdv ct us hl => match us, hl with | [_, _, _, _, _, _], _ => rfl
theorem b__law_told : BindOk dp__law_told := fun kV doc pm an cdv ct us hl => match us, hl with | [_, _, _, _], _ => rfl
theorem b__law_better : BindOk dp__law_better := fun kV doc pm an cdv ct us hl => match us, hl with | [_, _], _ => rfl
theorem b__law_apart : BindOk dp__law_apart := fun kV doc pm an cdv ct us hl => match us, hl with | [_, _], _ => rfl
theorem b__law_project : BindOk dp__law_project := fun kV doc pm an cdv ct us hl => match us, hl with | [_, _], _ => rfl
theorem b__law_trim : BindOk dp__law_trim := fun kV doc pm an cdv ct us hl => match us, hl with | [_], _ => rfl
theorem b__law_needed : BindOk dp__law_needed := fun kV doc pm an cdv ct us hl => match us, hl with | [_], _ => rfl
theorem b__law_many : BindOk dp__law_many := fun kV doc pm an cdv ct us hl => match us, hl with | [_, _], _ => rfl
theorem b__law_pair : BindOk dp__law_pair := fun kV doc pm an cdv ct us hl => match us, hl with | [_, _], _ => rfl
theorem b__law_heady : BindOk dp__law_heady := fun kV doc pm an cdv ct us hl => match us, hl with | [_, _], _ => rfl
theorem b__law_goods : BindOk dp__law_goods := fun kV doc pm an cdv ct us hl => match us, hl with | [_, _], _ => rfl
theorem b__law_split : BindOk dp__law_split := fun kV doc pm an cdv ct us hl => match us, hl with | [_, _, _], _ => rfl
theorem b__law_due_off : BindOk dp__law_due_off := fun kV doc pm an cdv ct us hl => match us, hl with | [_, _, _, _, _], _ => rfl
theorem b_law : BindOk dp_law := fun kV doc pm an cdv ct us hl => match us, hl with | [_], _ => rfl
theorem binds0 : ∀ dp ∈ dps0, BindOk dp := by
  intro dp h
  simp only [dps0, List.mem_cons, List.not_mem_nil, or_false] at h
  rcases h with rfl | rfl | rfl | rfl | rfl | rfl | rfl | rfl | rfl | rfl | rfl | rfl | rfl | rfl | rfl | rfl | rfl | rfl | rfl | rfl
  · exact b_is_integer
  · exact b_is_number
  · exact b_zero
  · exact b_plus
  · exact b_minus
  · exact b_top
  · exact b_total
  · exact b_fits
  · exact b_cells
  · exact b_place
  · exact b_vectors_within
  · exact b_is_vector
  · exact b_check_vector
  · exact b_first_size
  · exact b_is_row
  · exact b_is_standing
  · exact b_check_tariff
  · exact b_check_two
  · exact b_table
  · exact b_best_off
theorem binds1 : ∀ dp ∈ dps1, BindOk dp := by
  intro dp h
  simp only [dps1, List.mem_cons, List.not_mem_nil, or_false] at h
  rcases h with rfl | rfl | rfl | rfl | rfl | rfl | rfl | rfl | rfl | rfl | rfl | rfl | rfl | rfl | rfl | rfl | rfl | rfl | rfl | rfl
  · exact b_off_of
  · exact b_better
  · exact b_apart
  · exact b_picked
  · exact b_project
  · exact b_trim
  · exact b__law_numbers
  · exact b__law_same
  · exact b__law_unit
  · exact b__law_plus
  · exact b__law_minus
  · exact b__law_fits
  · exact b__law_cells
  · exact b__law_members
  · exact b__law_most
  · exact b__law_off
  · exact b__law_vector
  · exact b__law_forms
  · exact b__law_heads
  · exact b__law_told
theorem binds2 : ∀ dp ∈ dps2, BindOk dp := by
  intro dp h
  simp only [dps2, List.mem_cons, List.not_mem_nil, or_false] at h
  rcases h with rfl | rfl | rfl | rfl | rfl | rfl | rfl | rfl | rfl | rfl | rfl | rfl
  · exact b__law_better
  · exact b__law_apart
  · exact b__law_project
  · exact b__law_trim
  · exact b__law_needed
  · exact b__law_many
  · exact b__law_pair
  · exact b__law_heady
  · exact b__law_goods
  · exact b__law_split
  · exact b__law_due_off
  · exact b_law
theorem binds : ∀ dp ∈ dps, BindOk dp := fun dp h => by
  simp only [dps, List.mem_append] at h
  rcases h with (h | h) | h
  · exact binds0 dp h
  · exact binds1 dp h
  · exact binds2 dp h
theorem xb_BadNumber : XBind xp_BadNumber := fun kV doc pm cdv ct an cc us hl => match us, hl with | [_, _, _, _], _ => rfl
theorem xb_BadVector : XBind xp_BadVector := fun kV doc pm cdv ct an cc us hl => match us, hl with | [_, _], _ => rfl
theorem xb_BadTariff : XBind xp_BadTariff := fun kV doc pm cdv ct an cc us hl => match us, hl with | [_, _], _ => rfl
theorem xb_TooMany : XBind xp_TooMany := fun kV doc pm cdv ct an cc us hl => match us, hl with | [_, _], _ => rfl
theorem xb_TooWide : XBind xp_TooWide := fun kV doc pm cdv ct an cc us hl => match us, hl with | [_, _], _ => rfl
theorem xbinds : ∀ e ∈ tab.xs, XBind e := fun e h => by
  have h : e ∈ [xp_BadNumber, xp_BadVector, xp_BadTariff, xp_TooMany, xp_TooWide] := h
  simp only [List.mem_cons, List.not_mem_nil, or_false] at h
  rcases h with rfl | rfl | rfl | rfl | rfl
  · exact xb_BadNumber
  · exact xb_BadVector
  · exact xb_BadTariff
  · exact xb_TooMany
  · exact xb_TooWide
theorem okAll : (dps.zip fnL).all (fun x => okF (tab.pg D G) x.1 x.2) = true := by decide +kernel
theorem tabOk : tab.Ok PySem.Challenge.pw_offerbook_k50_algebra D G := ⟨defs_of (by decide +kernel) okAll, gls_of, binds, xbinds, by decide +kernel, xname_of (by decide +kernel), by decide +kernel⟩
def loose0 : List Str := ["is_integer", "is_number", "zero", "plus", "minus", "top", "total", "fits", "cells", "place", "vectors_within", "is_vector", "check_vector", "first_size", "is_row", "is_standing", "check_tariff", "check_two", "table", "best_off", "off_of", "better", "apart", "picked", "project", "trim", "_law_numbers", "_law_same", "_law_unit", "_law_plus"]
def loose1 : List Str := ["_law_minus", "_law_fits", "_law_cells", "_law_members", "_law_most", "_law_off", "_law_vector", "_law_forms", "_law_heads", "_law_told", "_law_better", "_law_apart", "_law_project", "_law_trim", "_law_needed", "_law_many", "_law_pair", "_law_heady", "_law_goods", "_law_split", "_law_due_off", "OfferError", "BadNumber", "BadVector", "BadTariff", "TooMany", "TooWide", "MOST_GOODS", "MOST_COUNT", "MOST_UNITS"]
def loose2 : List Str := ["MOST_TARIFF_HEADS", "MOST_FORMS", "MOST_HEAD_OFF", "MOST_HEAD_COUNT", "MOST_FORM_OFF", "MOST_CELLS"]
def loose : List Str := loose0 ++ loose1 ++ loose2
def lawAt : Nat := 73
def lawIx : Nat := 51
end K50
end

section
set_option Elab.async false
set_option linter.all false
set_option maxRecDepth 100000
set_option maxHeartbeats 0
/-! K50Run: the top run. -/
namespace K50
open PySem PySem.Spec PL
open PyProof.Rows
abbrev R : PySem.W.OpenRow := PySem.W.OpenLaw.row PySem.Challenge.rw_offerbook_k50_algebra
abbrev hk : PySem.W.Hook := tab.hook PySem.Challenge.pw_offerbook_k50_algebra 6
def ob (s : PySem.W.SharedT) : AlP := tab.obG PySem.Challenge.pw_offerbook_k50_algebra 6 (HandSHeadRun.getT s)
theorem ob_eq (s : PySem.W.SharedT) : ob s = hk.obs s.abs := tab.obG_eq (HandSHeadRun.getT_eq s)
theorem run (w : World) : HandSHeadRun.RunEq R (PySem.W.view R.prog [lawAt]) hk ob 12000 loose w := by
  intro os
  kernel_rfl
end K50
end

section
set_option Elab.async false
set_option linter.all false
set_option maxRecDepth 100000
set_option maxHeartbeats 0
/-! K50End: the law holds, if the language's own answer is True for every script. -/
open PySem PySem.W PySem.Calls PyProof.Rows
theorem K50.holds_of (pure : ∀ ns : List Int, ns.length ≤ 63 → PL.callF K50.D K50.G 21 K50.lawIx [.scr (ns.map .int)] = .ok (.bl true)) : PySem.Challenge.rw_offerbook_k50_algebra.Holds := by
  w_on; o_law
  refine HandSHeadRun.head_any (r := OpenLaw.row PySem.Challenge.rw_offerbook_k50_algebra) (q := view (OpenLaw.row PySem.Challenge.rw_offerbook_k50_algebra).prog [K50.lawAt]) (H := K50.hk) (ob := K50.ob) (M := 12000) (loose := K50.loose) (d := HandSHeadRun.topDef (OpenLaw.row PySem.Challenge.rw_offerbook_k50_algebra).prog K50.lawAt) (kwd := []) K50.ob_eq
    (by kernel_rfl) (fun s => by kernel_rfl) K50.run (by kernel_rfl) (by kernel_rfl) (by kernel_rfl) (by rfl) (by first | assumption | decide +kernel) (by decide +kernel) ⟨rfl, rfl, rfl, rfl, rfl, by decide +kernel⟩ ?hw ?hc
  case hw => w_witness2
  case hc =>
    exact PL.law_walk (l := PySem.Challenge.rw_offerbook_k50_algebra) (t := K50.tab) (n := 20) (m := 63) (f := K50.lawIx) (dp := K50.dp_law) K50.tabOk (d := K50.i_law) rfl rfl rfl rfl pure rfl (by rw [sizeLine_eq]; decide) ⟨rfl, by decide, by decide⟩ (by kernel_rfl) (by kernel_rfl)
end
theorem PySem.Challenge.cw_offerbook_k50_algebra_holds : PySem.Challenge.rw_offerbook_k50_algebra.Holds := by
  exact K50.holds_of K50.pure
