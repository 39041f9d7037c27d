import PyProof.Rows.All
import Wide.All
import OpenK.AllK
import Wide.FinOn
import HandS.ForMost
import HandS.ForExc
import HandS.Lambda
import HandS.Wide
import HandS.IsInst
import HandS.HotCalls
import HandS.TupMul
import HandS.Deep
import HandS.TupAny
import HandS.Iter
import KE.GoesMore
import PyProof.Draws
import HandS.WordsExc
import HandS.HeadHook4
import HandS.Style
import HandS.Defaults
import PyProof.CompFree
import PyProof.SumWalk
import HandS.ExcIs
import HandS.Codes
import HandS.HeadHook1
import HandS.HeadHook2
import HandS.HeadHook3
import HandS.HeadWalk
import KE.KStateDown
import HandS.Head0
import HandS.Head1
import HandS.Head2
import HandS.HeadEnd
import PySem.Challenge.RW_bentnets_k03_whole_terms
set_option Elab.async false
set_option linter.all false
set_option maxRecDepth 100000
set_option maxHeartbeats 2000000
/-! Mp0: a small Python of data (PyData), its evaluator. -/
namespace Mp
open PySem L2

abbrev D := PyData

/-- what a mutable cell holds -/
inductive Cell where
  | lst (xs : List D)
  | dead
  | obj (c : Nat) (fs : List (Str × D))
  | st (rows : List (D × List D))
abbrev Store := List Cell
/-- what a slot holds -/
inductive Val where
  | d (x : D)
  | c (k : Nat)
abbrev En := List (Option Val)

inductive Res (α : Type) where
  | ok (a : α) (μ : Store)
  | exc (c : Nat) (μ : Store)
abbrev M (α : Type) := Store → Option (Res α)
@[inline] def M.bind {α β : Type} (m : M α) (k : α → M β) : M β := fun μ => match m μ with
  | none => none
  | some (.exc c μ') => some (.exc c μ')
  | some (.ok a μ') => k a μ'
def M.pure {α : Type} (a : α) : M α := fun μ => some (.ok a μ)
/-- an option as a run -/
def M.of {α : Type} : Option α → M α
  | some a => fun μ => some (.ok a μ)
  | none => fun _ => none

inductive BOp where
  | add | sub | mul | fdiv | mod | pow
  deriving DecidableEq
inductive COp where
  | eq | ne | lt | le | gt | ge | isn | isnn | inn | nin
  deriving DecidableEq
inductive Blt where
  | len | abs | min2 | max2 | sum | int | all | any | tuple | max1 | list | str
  deriving DecidableEq
inductive Ty where
  | int | bool | str | tuple | list
  deriving DecidableEq

mutual
inductive Tg where
  | n (i : Nat)
  | t (is : List Nat)
  | tt (ts : Tgs)
inductive Tgs where
  | nil
  | cons (t : Tg) (ts : Tgs)
end
mutual
def Tg.slots : Tg → List Nat
  | .n i => [i]
  | .t is => is
  | .tt ts => ts.slots
def Tgs.slots : Tgs → List Nat
  | .nil => []
  | .cons t ts => t.slots ++ ts.slots
end
mutual
inductive ME where
  | var (i : Nat)
  | cst (d : D)
  | glb (g : Nat)
  | bin (op : BOp) (a b : ME)
  | neg (a : ME)
  | cmp (op : COp) (a b : ME)
  | chain (op1 op2 : COp) (a b c : ME)
  | and (a b : ME)
  | or (a b : ME)
  | not (a : ME)
  | ite (c a b : ME)
  | tup (es : MEs)
  | lst (es : MEs)
  | idx (a b : ME)
  | slice (a : ME) (lo hi : MO)
  | call (f : Nat) (es : MEs)
  | blt (b : Blt) (es : MEs)
  | isi (a : ME) (t : Ty)
  | comp (i : Nat) (it : MI) (elt : ME)
  | compIf (i : Nat) (it : MI) (c elt : ME)
  | idxC (i : Nat) (e : ME)
  | cv (i : Nat)
  | told (e : ME)
  | stk
  | nl
  | compT (t : Tg) (it : MI) (elt : ME)
  | compIfT (t : Tg) (it : MI) (c elt : ME)
  | comp2 (i : Nat) (it : MI) (j : Nat) (it2 : MI) (elt : ME)
  | comp2If (i : Nat) (it : MI) (j : Nat) (it2 : MI) (c elt : ME)
  | cmpC (op : COp) (i : Nat) (e : ME)
  | inC (neg : Bool) (e : ME) (i : Nat)
  | binC (op : BOp) (i : Nat) (e : ME)
  | sliceC (i : Nat) (lo hi : MO)
  | bltC (b : Blt) (i : Nat)
inductive MEs where
  | nil
  | cons (e : ME) (es : MEs)
inductive MO where
  | none
  | some (e : ME)
/-- what is walked -/
inductive MI where
  | seq (e : ME)
  | rng1 (e : ME)
  | rng2 (a b : ME)
  | enum (e : ME)
end

inductive MS where
  | asg (t : Tg) (e : ME)
  | par (i j : Nat) (a b : ME)
  | setC (i : Nat) (k v : ME)
  | app (i : Nat) (e : ME)
  | alloc (i : Nat) (es : MEs)
  | expr (e : ME)
  | ret (e : ME)
  | retN
  | retC (i : Nat)
  | iff (c : ME) (a b : List MS)
  | whl (c : ME) (b : List MS) (fuel : En → Nat)
  | fr (t : Tg) (it : MI) (b : List MS)
  | raise (c : Nat)
  | pass
  | stk
  | frz (i : Nat)
  | parV (is : List Nat) (es : MEs)

/-! ### operations on data -/
def intOf : D → Option Int
  | .int i => some i
  | _ => none
def mulOk (i j : Int) : Bool := decide (i.natAbs.log2 + j.natAbs.log2 < 100000000)
def divOk (j : Int) : Bool := decide (j ≠ 0) && decide (j.natAbs.log2 < 9000)
def powOk (i j : Int) : Bool := decide (0 ≤ j) && decide (j ≤ 1000000) && decide (i.natAbs < 2 ^ 64)
def repOk (n : Nat) (j : Int) : Bool := decide (0 < n) && decide (2 ≤ j) && decide (j ≤ 1000) && decide (n ≤ 10)
def bop : BOp → D → D → Option D
  | .add, .int i, .int j => some (.int (i + j))
  | .add, .list xs, .list ys => if xs.length + ys.length ≤ 1000000 then some (.list (xs ++ ys)) else none
  | .add, .tuple xs, .tuple ys => if xs.length + ys.length ≤ 1000000 then some (.tuple (xs ++ ys)) else none
  | .add, .str x, .str y => if x.length + y.length ≤ 1000000 then some (.str (x ++ y)) else none
  | .sub, .int i, .int j => some (.int (i - j))
  | .mul, .int i, .int j => if mulOk i j = true then some (.int (i * j)) else none
  | .mul, .tuple xs, .int j => if repOk xs.length j = true then some (.tuple (List.replicate j.toNat xs).flatten) else none
  | .fdiv, .int i, .int j => if divOk j = true then some (.int (i.fdiv j)) else none
  | .mod, .int i, .int j => if j ≠ 0 then some (.int (i.fmod j)) else none
  | .pow, .int i, .int j => if powOk i j = true then some (.int (i ^ j.toNat)) else none
  | _, _, _ => none
def flatD : D → Bool
  | .none => true
  | .bool _ => true
  | .int _ => true
  | .str _ => true
  | _ => false
def okEq (d : D) : Bool := SeqAt.shaped d
def inD (x : D) : D → Option Bool
  | .tuple ys => if flatD x && ys.all flatD then some (ys.any fun y => PyData.eqv y x) else none
  | .list ys => if flatD x && ys.all flatD then some (ys.any fun y => PyData.eqv y x) else if okEq x && okEq (.list ys) then some (ys.any fun y => PyData.eqv y x) else none
  | _ => none
def isNoneD : D → Bool
  | .none => true
  | _ => false
def cop : COp → D → D → Option Bool
  | .eq, x, y => if okEq x && okEq y then some (PyData.eqv x y) else none
  | .ne, x, y => if okEq x && okEq y then some (!PyData.eqv x y) else none
  | .lt, .int i, .int j => some (decide (i < j))
  | .le, .int i, .int j => some (decide (i ≤ j))
  | .gt, .int i, .int j => some (decide (j < i))
  | .ge, .int i, .int j => some (decide (j ≤ i))
  | .isn, x, .none => some (isNoneD x)
  | .isnn, x, .none => some (!isNoneD x)
  | .inn, x, y => inD x y
  | .nin, x, y => (inD x y).map fun b => !b
  | _, _, _ => none
def isTy : D → Ty → Bool
  | .int _, .int => true
  | .bool _, .int => true
  | .bool _, .bool => true
  | .str _, .str => true
  | .tuple _, .tuple => true
  | .list _, .list => true
  | _, _ => false
def tyOk : D → Bool
  | .dict _ => false
  | _ => true
def intsOf : List D → Option (List Int)
  | [] => some []
  | .int i :: r => (intsOf r).map fun ns => i :: ns
  | _ :: _ => none
def bolsOf : List D → Option (List Bool)
  | [] => some []
  | .bool i :: r => (bolsOf r).map fun ns => i :: ns
  | _ :: _ => none
def seqOf : D → Option (List D)
  | .list xs => some xs
  | .tuple xs => some xs
  | _ => none
def idxD (a b : D) : Option D := match a, b with
  | .list xs, .int i => atI xs i
  | .tuple xs, .int i => atI xs i
  | .str z, .int i => if z.length ≤ 1000000 then (atI z.cps.toList i).map fun c => .str ⟨#[c]⟩ else none
  | _, _ => none
def cutD (xs : List D) (lo hi : Option Int) : List D := (xs.drop (HT.sIx xs.length 0 lo)).take (HT.sIx xs.length xs.length hi - HT.sIx xs.length 0 lo)
def slD (x : D) (l h : Option Int) : Option D := match x with
  | .list xs => some (.list (cutD xs l h))
  | .tuple xs => some (.tuple (cutD xs l h))
  | _ => none
def maxI : List Int → Int
  | [] => 0
  | [x] => x
  | x :: y :: r => if x < maxI (y :: r) then maxI (y :: r) else x
def bltD : Blt → List D → Option D
  | .len, [.list xs] => some (.int xs.length)
  | .len, [.tuple xs] => some (.int xs.length)
  | .len, [.str x] => if x.length ≤ 1000000 then some (.int x.length) else none
  | .abs, [.int i] => some (.int (if i < 0 then -i else i))
  | .min2, [.int i, .int j] => some (.int (if j < i then j else i))
  | .max2, [.int i, .int j] => some (.int (if j > i then j else i))
  | .sum, [.list xs] => (intsOf xs).map fun ns => .int ns.sum
  | .int, [.int i] => some (.int i)
  | .int, [.bool b] => some (.int (if b then 1 else 0))
  | .all, [.list xs] => (bolsOf xs).map fun bs => .bool (bs.all id)
  | .any, [.list xs] => (bolsOf xs).map fun bs => .bool (bs.any id)
  | .tuple, [.list xs] => some (.tuple xs)
  | .tuple, [.tuple xs] => some (.tuple xs)
  | .list, [.list xs] => some (.list xs)
  | .list, [.tuple xs] => some (.list xs)
  | .str, [.int i] => if i.natAbs.log2 < 1920 then some (.str (toString i)) else none
  | .max1, [.list xs] => (intsOf xs).bind fun ns => if ns = [] then none else some (.int (maxI ns))
  | _, _ => none

/-! ### the evaluator -/
def rngD (lo : Int) : Nat → List D
  | 0 => []
  | n + 1 => .int lo :: rngD (lo + 1) n
def rngOk (i : Int) : Bool := decide (-(2 ^ 62) ≤ i) && decide (i < 2 ^ 62)
def lenOk (xs : List D) : Option (List D) := if xs.length ≤ 1000000 then some xs else none
def boolOf : D → Option Bool
  | .bool b => some b
  | _ => none

section
variable (G : Nat → Option D) (call : Nat → List Val → M D)
def lookD (en : En) (i : Nat) : Option D := match en[i]? with
  | some (some (.d x)) => some x
  | _ => none
def lookC (en : En) (i : Nat) : Option Nat := match en[i]? with
  | some (some (.c k)) => some k
  | _ => none
def cellL (μ : Store) (k : Nat) : Option (List D) := match μ[k]? with
  | some (.lst xs) => some xs
  | _ => none
/-- the items, one after another -/
def mapM' (f : D → M D) : List D → M (List D)
  | [] => M.pure []
  | x :: r => (f x).bind fun y => (mapM' f r).bind fun ys => M.pure (y :: ys)
def mapIf (c : D → M Bool) (f : D → M D) : List D → M (List D)
  | [] => M.pure []
  | x :: r => (c x).bind fun b => match b with
    | true => (f x).bind fun y => (mapIf c f r).bind fun ys => M.pure (y :: ys)
    | false => mapIf c f r
/-- no exception leaves -/
def M.nox {α : Type} (m : M α) : M α := fun μ => match m μ with
  | some (.exc _ _) => none
  | r => r

def enumD : Nat → List D → List D
  | _, [] => []
  | n, x :: r => .tuple [.int n, x] :: enumD (n + 1) r
def wipeE (en : En) : List Nat → En
  | [] => en
  | v :: vs => (wipeE en vs).set v none
mutual
def setT : Tg → D → En → Option En
  | .n i, x, en => some (en.set i (some (.d x)))
  | .t is, .tuple xs, en => if xs.length = is.length then some ((is.zip xs).foldl (fun e p => e.set p.1 (some (.d p.2))) en) else none
  | .t _, _, _ => none
  | .tt ts, .tuple xs, en => setTs ts xs en
  | .tt _, _, _ => none
def setTs : Tgs → List D → En → Option En
  | .nil, [], en => some en
  | .cons t ts, x :: xs, en => (setT t x en).bind fun en' => setTs ts xs en'
  | _, _, _ => none
end
/-- a run at the target's names -/
def atT {α : Type} (t : Tg) (en : En) (f : En → M α) (x : D) : M α := match setT t x (wipeE en t.slots) with
  | some en' => (f en').nox
  | none => fun _ => none
/-- the rows of two fors -/
def flatM (f : D → M (List D)) : List D → M (List D)
  | [] => M.pure []
  | x :: r => (f x).bind fun y => (flatM f r).bind fun ys => M.pure (y ++ ys)
mutual
def ev : ME → En → M D
  | .var i, en => M.of (lookD en i)
  | .cst d, _ => M.pure d
  | .glb g, _ => M.of (G g)
  | .bin op a b, en => (ev a en).bind fun x => (ev b en).bind fun y => M.of (bop op x y)
  | .neg a, en => (ev a en).bind fun x => M.of ((intOf x).map fun i => .int (-i))
  | .cmp op a b, en => (ev a en).bind fun x => (ev b en).bind fun y => M.of ((cop op x y).map .bool)
  | .chain o1 o2 a b c, en => (ev a en).bind fun x => (ev b en).bind fun y => (M.of (cop o1 x y)).bind fun k => match k with
    | true => (ev c en).bind fun z => M.of ((cop o2 y z).map .bool)
    | false => M.pure (.bool false)
  | .and a b, en => (ev a en).bind fun x => (M.of (boolOf x)).bind fun k => match k with
    | true => ev b en
    | false => M.pure (.bool false)
  | .or a b, en => (ev a en).bind fun x => (M.of (boolOf x)).bind fun k => match k with
    | true => M.pure (.bool true)
    | false => ev b en
  | .not a, en => (ev a en).bind fun x => M.of ((boolOf x).map fun b => .bool (!b))
  | .ite c a b, en => (ev c en).bind fun x => (M.of (boolOf x)).bind fun k => match k with
    | true => ev a en
    | false => ev b en
  | .tup es, en => (evs es en).bind fun xs => M.pure (.tuple xs)
  | .lst es, en => (evs es en).bind fun xs => M.pure (.list xs)
  | .idx a b, en => (ev a en).bind fun x => (ev b en).bind fun y => M.of (idxD x y)
  | .slice a lo hi, en => (ev a en).bind fun x => (evo lo en).bind fun l => (evo hi en).bind fun h => M.of (slD x l h)
  | .call f es, en => (evv es en).bind fun vs => call f vs
  | .blt b es, en => (evs es en).bind fun xs => M.of (bltD b xs)
  | .isi a t, en => (ev a en).bind fun x => M.of (if tyOk x then some (.bool (isTy x t)) else none)
  | .comp i it e, en => (evi it en).bind fun xs => (M.of (lenOk xs)).bind fun xs => (mapM' (fun x => (ev e (en.set i (some (.d x)))).nox) xs).bind fun ys => M.pure (.list ys)
  | .compIf i it c e, en => (evi it en).bind fun xs => (M.of (lenOk xs)).bind fun xs => (mapIf (fun x => ((ev c (en.set i (some (.d x)))).bind fun z => M.of (boolOf z)).nox) (fun x => (ev e (en.set i (some (.d x)))).nox) xs).bind fun ys => M.pure (.list ys)
  | .idxC i e, en => (M.of (lookC en i)).bind fun k => (ev e en).bind fun y => fun μ => match cellL μ k, y with
    | some xs, .int j => M.of (atI xs j) μ
    | _, _ => none
  | .cv _, _ => fun _ => none
  | .told e, en => fun μ => match ev e en μ with
    | some (.exc c μ') => M.of (G (1000 + c)) μ'
    | r => r
  | .stk, _ => fun _ => none
  | .nl, _ => fun _ => none
  | .compT t it e, en => (evi it en).bind fun xs => (M.of (lenOk xs)).bind fun xs => (mapM' (atT t en (ev e)) xs).bind fun ys => M.pure (.list ys)
  | .compIfT t it c e, en => (evi it en).bind fun xs => (M.of (lenOk xs)).bind fun xs => (mapIf (atT t en fun en => (ev c en).bind fun z => M.of (boolOf z)) (atT t en (ev e)) xs).bind fun ys => M.pure (.list ys)
  | .comp2 i it j it2 e, en => (evi it en).bind fun xs => (M.of (lenOk xs)).bind fun xs => (flatM (fun x => ((evi it2 (en.set i (some (.d x)))).nox.bind fun zs => mapM' (fun z => (ev e ((en.set i (some (.d x))).set j (some (.d z)))).nox) zs)) xs).bind fun ys => (M.of (lenOk ys)).bind fun ys => M.pure (.list ys)
  | .comp2If i it j it2 c e, en => (evi it en).bind fun xs => (M.of (lenOk xs)).bind fun xs => (flatM (fun x => ((evi it2 (en.set i (some (.d x)))).nox.bind fun zs => mapIf (fun z => ((ev c ((en.set i (some (.d x))).set j (some (.d z)))).bind fun z => M.of (boolOf z)).nox) (fun z => (ev e ((en.set i (some (.d x))).set j (some (.d z)))).nox) zs)) xs).bind fun ys => (M.of (lenOk ys)).bind fun ys => M.pure (.list ys)
  | .cmpC op i e, en => (M.of (lookC en i)).bind fun k => (ev e en).bind fun y => fun μ => match cellL μ k with
    | some xs => if op = .eq ∨ op = .ne then M.of ((cop op (.list xs) y).map .bool) μ else none
    | none => none
  | .inC neg e i, en => (ev e en).bind fun x => (M.of (lookC en i)).bind fun k => fun μ => match cellL μ k with
    | some xs => M.of ((cop (if neg then .nin else .inn) x (.list xs)).map .bool) μ
    | none => none
  | .binC op i e, en => (M.of (lookC en i)).bind fun k => (ev e en).bind fun y => fun μ => match cellL μ k, op, y with
    | some xs, .add, .list ys => M.of (bop .add (.list xs) (.list ys)) μ
    | _, _, _ => none
  | .sliceC i lo hi, en => (M.of (lookC en i)).bind fun k => (evo lo en).bind fun l => (evo hi en).bind fun h => fun μ => match cellL μ k with
    | some xs => M.of (slD (.list xs) l h) μ
    | none => none
  | .bltC b i, en => (M.of (lookC en i)).bind fun k => fun μ => match cellL μ k with
    | some xs => M.of (bltD b [.list xs]) μ
    | none => none
def evs : MEs → En → M (List D)
  | .nil, _ => M.pure []
  | .cons e es, en => (ev e en).bind fun x => (evs es en).bind fun xs => M.pure (x :: xs)
/-- arguments: a cell by its name, else data -/
def evv : MEs → En → M (List Val)
  | .nil, _ => M.pure []
  | .cons (.cv i) es, en => (M.of (lookC en i)).bind fun k => (evv es en).bind fun xs => M.pure (.c k :: xs)
  | .cons .nl es, en => fun μ => (evv es en).bind (fun xs => M.pure (.c μ.length :: xs)) (μ ++ [.lst []])
  | .cons e es, en => (ev e en).bind fun x => (evv es en).bind fun xs => M.pure (.d x :: xs)
def evo : MO → En → M (Option Int)
  | .none, _ => M.pure none
  | .some e, en => (ev e en).bind fun x => M.of ((intOf x).map some)
def evi : MI → En → M (List D)
  | .seq e, en => (ev e en).bind fun x => M.of (seqOf x)
  | .enum e, en => (ev e en).bind fun x => M.of ((seqOf x).map (enumD 0))
  | .rng1 e, en => (ev e en).bind fun x => M.of ((intOf x).bind fun n => if rngOk n = true then some (rngD 0 n.toNat) else none)
  | .rng2 a b, en => (ev a en).bind fun x => (ev b en).bind fun y => M.of ((intOf x).bind fun i => (intOf y).bind fun j => if rngOk i && rngOk j then some (rngD i (j - i).toNat) else none)
end

/-- where a suite ends -/
inductive SR where
  | next (en : En) (μ : Store)
  | ret (d : D) (μ : Store)
  | retC (k : Nat) (μ : Store)
  | exc (c : Nat) (μ : Store)
/-- a run's value into the suite -/
def sbind {α : Type} (r : Option (Res α)) (k : α → Store → Option SR) : Option SR := match r with
  | none => none
  | some (.exc c μ) => some (.exc c μ)
  | some (.ok a μ) => k a μ
def snext (r : Option SR) (k : En → Store → Option SR) : Option SR := match r with
  | some (.next en μ) => k en μ
  | r => r
def whileL (c : En → M Bool) (b : En → Store → Option SR) : Nat → En → Store → Option SR
  | 0, _, _ => none
  | n + 1, en, μ => sbind (c en μ) fun k μ => match k with
    | true => snext (b en μ) fun en μ => whileL c b n en μ
    | false => some (.next en μ)
def forL (t : Tg) (b : En → Store → Option SR) : List D → En → Store → Option SR
  | [], en, μ => some (.next en μ)
  | x :: r, en, μ => match setT t x en with
    | none => none
    | some en' => snext (b en' μ) fun en μ => forL t b r en μ
mutual
def ex : MS → En → Store → Option SR
  | .asg t e, en, μ => sbind (ev G call e en μ) fun x μ => (setT t x en).map fun en' => .next en' μ
  | .par i j a b, en, μ => sbind (ev G call a en μ) fun x μ => sbind (ev G call b en μ) fun y μ => some (.next ((en.set i (some (.d x))).set j (some (.d y))) μ)
  | .setC i k v, en, μ => sbind (ev G call v en μ) fun y μ => match lookC en i with
    | none => none
    | some c => sbind (ev G call k en μ) fun x μ => match cellL μ c, x with
      | some xs, .int j => (ixN xs.length j).map fun n => .next en (μ.set c (.lst (xs.set n y)))
      | _, _ => none
  | .app i e, en, μ => match lookC en i with
    | none => none
    | some c => match cellL μ c with
      | none => none
      | some _ => sbind (ev G call e en μ) fun y μ => match cellL μ c with
        | some xs => if xs.length < 1000000 then some (.next en (μ.set c (.lst (xs ++ [y])))) else none
        | none => none
  | .alloc i es, en, μ => sbind (evs G call es en μ) fun xs μ => some (.next (en.set i (some (.c μ.length))) (μ ++ [.lst xs]))
  | .expr e, en, μ => sbind (ev G call e en μ) fun _ μ => some (.next en μ)
  | .ret e, en, μ => sbind (ev G call e en μ) fun x μ => some (.ret x μ)
  | .retN, _, μ => some (.ret .none μ)
  | .retC i, en, μ => match lookC en i with
    | none => none
    | some c => match cellL μ c with
      | some _ => some (.retC c μ)
      | none => none
  | .iff c a b, en, μ => sbind (ev G call c en μ) fun x μ => match boolOf x with
    | some true => exs a en μ
    | some false => exs b en μ
    | none => none
  | .whl c b f, en, μ => whileL (fun en => (ev G call c en).bind fun x => M.of (boolOf x)) (fun en μ => exs b en μ) (f en) en μ
  | .fr t it b, en, μ => sbind (evi G call it en μ) fun xs μ => forL t (fun en μ => exs b en μ) xs en μ
  | .raise c, _, μ => some (.exc c μ)
  | .pass, en, μ => some (.next en μ)
  | .stk, _, _ => none
  | .frz i, en, μ => match lookC en i with
    | none => none
    | some c => match cellL μ c with
      | some xs => some (.next (en.set i (some (.d (.list xs)))) (μ.set c .dead))
      | none => none
  | .parV is es, en, μ => sbind (evv G call es en μ) fun vs μ => if vs.length = is.length then some (.next ((is.zip vs).foldl (fun e p => e.set p.1 (some p.2)) en) μ) else none
def exs : List MS → En → Store → Option SR
  | [], en, μ => some (.next en μ)
  | s :: r, en, μ => snext (ex s en μ) fun en μ => exs r en μ
end
end

/-- a def: its number of parameters, of slots; its body -/
structure Fn where
  ar : Nat
  sl : Nat
  body : List MS
/-- a def of the text, or one whose meaning is told -/
inductive FnT where
  | df (f : Fn)
  | pr (k : Nat) (sem : List Val → M D)
abbrev Tb := Nat → Option FnT
def startE (sl : Nat) (vs : List Val) : En := vs.map some ++ List.replicate (sl - vs.length) none
def callN (G : Nat → Option D) (T : Tb) : Nat → Nat → List Val → M D
  | 0, _, _, _ => none
  | n + 1, f, vs, μ => match T f with
    | some (.df g) => if vs.length = g.ar then (match exs G (callN G T n) g.body (startE g.sl vs) μ with
        | some (.ret d μ') => some (.ok d (μ'.take μ.length))
        | some (.retC c μ') => if μ.length ≤ c then (cellL μ' c).map fun xs => .ok (.list xs) (μ'.take μ.length) else none
        | some (.next _ μ') => some (.ok .none (μ'.take μ.length))
        | some (.exc c μ') => some (.exc c (μ'.take μ.length))
        | none => none) else none
    | some (.pr k sem) => if k ≤ n then sem vs μ else none
    | none => none
end Mp

set_option maxRecDepth 100000
set_option maxHeartbeats 2000000
/-! Mp1: how data lies in the abstract heap; what a run promises. -/
namespace Mp
open PySem L2

/-- the held addresses (lists that grow in a comprehension); the cells: each with its address and what else it owns, none once it is frozen -/
abbrev Th := List Addr × List (Option (Addr × List Addr))
def At (θ : Th) (k : Nat) (a : Addr) : Prop := ∃ own, θ.2[k]? = some (some (a, own))
def In (θ : Th) (k : Nat) (b : Addr) : Prop := ∃ a own, θ.2[k]? = some (some (a, own)) ∧ (b = a ∨ b ∈ own)
def Dead (θ : Th) (k : Nat) : Prop := θ.2[k]? = some none
theorem At.inn {θ : Th} {k : Nat} {a : Addr} (h : At θ k a) : In θ k a := let ⟨own, e⟩ := h; ⟨a, own, e, .inl rfl⟩
theorem At.inj {θ : Th} {k : Nat} {a b : Addr} (h : At θ k a) (h' : At θ k b) : a = b := by
  obtain ⟨o, e⟩ := h
  obtain ⟨o', e'⟩ := h'
  rw [e] at e'
  cases e'
  rfl
theorem At.alive {θ : Th} {k : Nat} {a : Addr} (h : At θ k a) (h' : Dead θ k) : False := by
  obtain ⟨o, e⟩ := h
  unfold Dead at h'
  rw [e] at h'
  cases h'
theorem In.lt {θ : Th} {k : Nat} {b : Addr} (h : In θ k b) : k < θ.2.length := by
  obtain ⟨a, own, e, _⟩ := h
  exact (List.getElem?_eq_some_iff.mp e).1
def Out (a : Addr) (θ : Th) : Prop := a ∉ θ.1 ∧ ∀ k, ¬ In θ k a
mutual
inductive VR (K : PySem.W.Frag) (H : Hp) (θ : Th) : D → V → Prop
  | non : VR K H θ .none .non
  | bl (b : Bool) : VR K H θ (.bool b) (.bl b)
  | int (i : Int) : VR K H θ (.int i) (.int i)
  | str (x : Str) : VR K H θ (.str x) (.str x)
  | lst {a : Addr} {xs : List V} {ds : List D} : H a = some (.lst xs) → Out a θ → VRs K H θ ds xs → VR K H θ (.list ds) (.ref a)
  | tup {a : Addr} {xs : List V} {ds : List D} : H a = some (.tup xs) → Out a θ → VRs K H θ ds xs → VR K H θ (.tuple ds) (.ref a)
  | tupK {a : Addr} {xs : List V} {ds : List D} : SqT K (fun _ => none) a xs → VRs K H θ ds xs → VR K H θ (.tuple ds) (.ref a)
inductive VRs (K : PySem.W.Frag) (H : Hp) (θ : Th) : List D → List V → Prop
  | nil : VRs K H θ [] []
  | cons {d : D} {v : V} {ds : List D} {vs : List V} : VR K H θ d v → VRs K H θ ds vs → VRs K H θ (d :: ds) (v :: vs)
end

section
variable {K : PySem.W.Frag} {H H' H1 : Hp} {θ θ' θ1 : Th}
theorem VRs.length : ∀ {ds : List D} {vs : List V}, VRs K H θ ds vs → ds.length = vs.length
  | _, _, .nil => rfl
  | _, _, .cons _ t => by simp [VRs.length t]
theorem VRs.append : ∀ {ds es : List D} {vs us : List V}, VRs K H θ ds vs → VRs K H θ es us → VRs K H θ (ds ++ es) (vs ++ us)
  | _, _, _, _, .nil, s => s
  | _, _, _, _, .cons r t, s => .cons r (VRs.append t s)
theorem VRs.get : ∀ {ds : List D} {vs : List V} {i : Nat} {d : D}, VRs K H θ ds vs → ds[i]? = some d → ∃ v, vs[i]? = some v ∧ VR K H θ d v
  | _, _, _, _, .nil, e => by simp at e
  | _, _, 0, _, .cons r _, e => by simp at e; subst e; exact ⟨_, rfl, r⟩
  | _, _, i + 1, d, .cons _ t, e => by
    obtain ⟨u, h1, h2⟩ := VRs.get (i := i) (d := d) t (by simpa using e)
    exact ⟨u, by simpa using h1, h2⟩
theorem VRs.getV : ∀ {ds : List D} {vs : List V} {i : Nat} {v : V}, VRs K H θ ds vs → vs[i]? = some v → ∃ d, ds[i]? = some d ∧ VR K H θ d v
  | _, _, _, _, .nil, e => by simp at e
  | _, _, 0, _, .cons r _, e => by simp at e; subst e; exact ⟨_, rfl, r⟩
  | _, _, i + 1, v, .cons _ t, e => by
    obtain ⟨u, h1, h2⟩ := VRs.getV (i := i) (v := v) t (by simpa using e)
    exact ⟨u, by simpa using h1, h2⟩
theorem VRs.set {d : D} {v : V} (r : VR K H θ d v) : ∀ {ds : List D} {vs : List V} (i : Nat), VRs K H θ ds vs → VRs K H θ (ds.set i d) (vs.set i v)
  | _, _, _, .nil => .nil
  | _, _, 0, .cons _ t => .cons r t
  | _, _, i + 1, .cons q t => .cons q (VRs.set r i t)
theorem VRs.take : ∀ {ds : List D} {vs : List V} (n : Nat), VRs K H θ ds vs → VRs K H θ (ds.take n) (vs.take n)
  | _, _, 0, _ => .nil
  | _, _, _ + 1, .nil => .nil
  | _, _, n + 1, .cons r t => .cons r (VRs.take n t)
theorem VRs.drop : ∀ {ds : List D} {vs : List V} (n : Nat), VRs K H θ ds vs → VRs K H θ (ds.drop n) (vs.drop n)
  | _, _, 0, r => r
  | _, _, _ + 1, .nil => .nil
  | _, _, n + 1, .cons _ t => VRs.drop n t
theorem SqT.empty {a : Addr} {xs : List V} (h : SqT K (fun _ => none) a xs) : SqT K H a xs := by
  rcases h with h | h
  · rcases h with h | ⟨o, h⟩ <;> cases h
  · exact .inr h

/-- nothing lies there, or a table -/
def Nil (H : Hp) (b : Addr) : Prop := ∀ o, H b = some o → ∃ ps, o = .tbl ps
theorem Nil.of {H : Hp} {b : Addr} (h : H b = none) : Nil H b := fun o e => by rw [h] at e; cases e
theorem Nil.upd {H : Hp} {p b : Addr} {o : HO} (hp : Nil H p) (h : Nil (L2.upd H p o) b) : Nil H b := fun u e => by
  by_cases hb : b = p
  · rw [hb] at e; exact hp u e
  · exact h u (by rw [upd_ne hb]; exact e)
theorem Nil.upd2 {H : Hp} {p b : Addr} {o : HO} (ho : ∀ ps, o ≠ .tbl ps) (h : Nil (L2.upd H p o) b) : Nil H b := fun u e => by
  by_cases hb : b = p
  · rw [hb] at h
    obtain ⟨ps, z⟩ := h o upd_same
    exact absurd z (ho ps)
  · exact h u (by rw [upd_ne hb]; exact e)
/-- what a run may do to the heap -/
structure Step (θ : Th) (H : Hp) (θ' : Th) (H' : Hp) : Prop where
  hd : θ'.1 = θ.1
  len : θ.2.length ≤ θ'.2.length
  p1 : ∀ k a, At θ k a → At θ' k a ∨ Dead θ' k
  p0 : ∀ k, Dead θ k → Dead θ' k
  p2 : ∀ k b, In θ' k b → In θ k b ∨ Nil H b
  keep : ∀ b o, H b = some o → (∀ ps, o ≠ .tbl ps) → (∀ k, ¬ In θ k b) → H' b = some o
  dom : ∀ b, Nil H' b → Nil H b
theorem Step.refl : Step θ H θ H := ⟨rfl, Nat.le_refl _, fun _ _ h => .inl h, fun _ h => h, fun _ _ h => .inl h, fun _ _ h _ _ => h, fun _ h => h⟩
theorem Step.out (st : Step θ H θ' H') {a : Addr} {o : HO} (e : H a = some o) (n : Out a θ) (no : ∀ ps, o ≠ .tbl ps) : Out a θ' := by
  refine ⟨by rw [st.hd]; exact n.1, fun k hm => ?_⟩
  rcases st.p2 k a hm with h | h
  · exact n.2 k h
  · obtain ⟨ps, z⟩ := h _ e
    exact no ps z
theorem Step.back (st : Step θ H θ' H') {k : Nat} {a : Addr} (h : At θ' k a) (hl : k < θ.2.length) : At θ k a := by
  cases q : θ.2[k]? with
  | none => rw [List.getElem?_eq_none_iff] at q; omega
  | some x =>
    cases x with
    | none => exact (h.alive (st.p0 k q)).elim
    | some p =>
      have h0 : At θ k p.1 := ⟨p.2, q⟩
      rcases st.p1 k _ h0 with z | z
      · rw [h.inj z]; exact h0
      · exact (h.alive z).elim
mutual
theorem VR.step (st : Step θ H θ' H') : ∀ {d : D} {v : V}, VR K H θ d v → VR K H' θ' d v
  | _, _, .non => .non
  | _, _, .bl b => .bl b
  | _, _, .int i => .int i
  | _, _, .str x => .str x
  | _, _, .lst e n t => .lst (st.keep _ _ e (fun _ z => by cases z) n.2) (st.out e n (fun _ z => by cases z)) (VRs.step st t)
  | _, _, .tup e n t => .tup (st.keep _ _ e (fun _ z => by cases z) n.2) (st.out e n (fun _ z => by cases z)) (VRs.step st t)
  | _, _, .tupK e t => .tupK e (VRs.step st t)
theorem VRs.step (st : Step θ H θ' H') : ∀ {ds : List D} {vs : List V}, VRs K H θ ds vs → VRs K H' θ' ds vs
  | _, _, .nil => .nil
  | _, _, .cons r t => .cons (VR.step st r) (VRs.step st t)
end
theorem Step.trans {H2 : Hp} {θ2 : Th} (a : Step θ H θ1 H1) (b : Step θ1 H1 θ2 H2) : Step θ H θ2 H2 := by
  refine ⟨b.hd.trans a.hd, Nat.le_trans a.len b.len, fun k c h => ?_, fun k h => b.p0 k (a.p0 k h), fun k c h => ?_, fun c o h n k => b.keep c o (a.keep c o h n k) n (fun j hm => ?_), fun c h => a.dom c (b.dom c h)⟩
  · rcases a.p1 k c h with z | z
    · exact b.p1 k c z
    · exact .inr (b.p0 k z)
  · rcases b.p2 k c h with z | z
    · exact a.p2 k c z
    · exact .inr (a.dom c z)
  · rcases a.p2 j c hm with z | z
    · exact k j z
    · obtain ⟨ps, y⟩ := z _ h
      exact n ps y
mutual
/-- fewer cells -/
theorem VR.less (h : ∀ a, Out a θ → Out a θ') : ∀ {d : D} {v : V}, VR K H θ d v → VR K H θ' d v
  | _, _, .non => .non
  | _, _, .bl b => .bl b
  | _, _, .int i => .int i
  | _, _, .str x => .str x
  | _, _, .lst e n t => .lst e (h _ n) (VRs.less h t)
  | _, _, .tup e n t => .tup e (h _ n) (VRs.less h t)
  | _, _, .tupK e t => .tupK e (VRs.less h t)
theorem VRs.less (h : ∀ a, Out a θ → Out a θ') : ∀ {ds : List D} {vs : List V}, VRs K H θ ds vs → VRs K H θ' ds vs
  | _, _, .nil => .nil
  | _, _, .cons r t => .cons (VR.less h r) (VRs.less h t)
end
mutual
theorem VR.dp : ∀ {d : D} {v : V}, VR K H θ d v → Dp K H v d
  | _, _, .non => .non
  | _, _, .bl b => .bl b
  | _, _, .int i => .int i
  | _, _, .str x => .str x
  | _, _, .lst e n t => .lst (SqL.of e) (VRs.dp t)
  | _, _, .tup e n t => .tup (SqT.of e) (VRs.dp t)
  | _, _, .tupK e t => .tup (SqT.empty e) (VRs.dp t)
theorem VRs.dp : ∀ {ds : List D} {vs : List V}, VRs K H θ ds vs → DpAll K H vs ds
  | _, _, .nil => .nil
  | _, _, .cons r t => .cons (VR.dp r) (VRs.dp t)
end
theorem VR.tupOf {ds : List D} {v : V} (h : VR K H θ (.tuple ds) v) : ∃ a xs, v = .ref a ∧ SqT K H a xs ∧ VRs K H θ ds xs := by
  cases h with
  | tup e n t => exact ⟨_, _, rfl, SqT.of e, t⟩
  | tupK e t => exact ⟨_, _, rfl, SqT.empty e, t⟩
theorem VR.lstOf {ds : List D} {v : V} (h : VR K H θ (.list ds) v) : ∃ a xs, v = .ref a ∧ H a = some (.lst xs) ∧ Out a θ ∧ VRs K H θ ds xs := by
  cases h with
  | lst e n t => exact ⟨_, _, rfl, e, n, t⟩

/-- a slot's value -/
def VRv (K : PySem.W.Frag) (H : Hp) (θ : Th) : Val → V → Prop
  | .d x, v => VR K H θ x v
  | .c k, v => Dead θ k ∨ ∃ a, At θ k a ∧ v = .ref a
theorem VRv.step (st : Step θ H θ' H') {x : Val} {v : V} (h : VRv K H θ x v) : VRv K H' θ' x v := by
  cases x with
  | d x => exact VR.step st h
  | c k =>
    rcases h with h | ⟨a, e, r⟩
    · exact .inl (st.p0 k h)
    · rcases st.p1 k a e with z | z
      · exact .inr ⟨a, z, r⟩
      · exact .inl z
inductive VRvs (K : PySem.W.Frag) (H : Hp) (θ : Th) : List Val → List V → Prop
  | nil : VRvs K H θ [] []
  | cons {d : Val} {v : V} {ds : List Val} {vs : List V} : VRv K H θ d v → VRvs K H θ ds vs → VRvs K H θ (d :: ds) (v :: vs)
theorem VRvs.step (st : Step θ H θ' H') : ∀ {xs : List Val} {vs : List V}, VRvs K H θ xs vs → VRvs K H' θ' xs vs
  | _, _, .nil => .nil
  | _, _, .cons r t => .cons (r.step st) (VRvs.step st t)
theorem VRvs.length : ∀ {ds : List Val} {vs : List V}, VRvs K H θ ds vs → ds.length = vs.length
  | _, _, .nil => rfl
  | _, _, .cons _ t => by simp [VRvs.length t]
theorem VRvs.get : ∀ {ds : List Val} {vs : List V} {i : Nat} {d : Val}, VRvs K H θ ds vs → ds[i]? = some d → ∃ v, vs[i]? = some v ∧ VRv K H θ d v
  | _, _, _, _, .nil, e => by simp at e
  | _, _, 0, _, .cons r _, e => by simp at e; subst e; exact ⟨_, rfl, r⟩
  | _, _, i + 1, d, .cons _ t, e => by
    obtain ⟨u, h1, h2⟩ := VRvs.get (i := i) (d := d) t (by simpa using e)
    exact ⟨u, by simpa using h1, h2⟩

/-- the slots -/
structure ERel (K : PySem.W.Frag) (H : Hp) (θ : Th) (en : En) (σ : St) : Prop where
  len : en.length = σ.length
  at_ : ∀ (i : Nat) (x : Val), en[i]? = some (some x) → ∃ v, σ[i]? = some (some v) ∧ VRv K H θ x v
theorem ERel.step (st : Step θ H θ' H') {en : En} {σ : St} (h : ERel K H θ en σ) : ERel K H' θ' en σ :=
  ⟨h.len, fun i x e => let ⟨v, e1, r⟩ := h.at_ i x e; ⟨v, e1, r.step st⟩⟩
theorem ERel.set {en : En} {σ : St} (h : ERel K H θ en σ) (i : Nat) {x : Val} {v : V} (r : VRv K H θ x v) : ERel K H θ (en.set i (some x)) (σ.set i (some v)) := by
  refine ⟨by simp [h.len], fun j y e => ?_⟩
  by_cases hj : i = j
  · subst hj
    by_cases hl : i < en.length
    · rw [List.getElem?_set_self hl] at e
      cases e
      exact ⟨v, by rw [List.getElem?_set_self (h.len ▸ hl)], r⟩
    · rw [List.getElem?_eq_none (by simpa using hl)] at e
      cases e
  · rw [List.getElem?_set_ne hj] at e ⊢
    exact h.at_ j y e
theorem ERel.wipe {en : En} {σ : St} (h : ERel K H θ en σ) (i : Nat) {x : Val} {v : V} (r : VRv K H θ x v) : ERel K H θ (en.set i (some x)) ((L2.wipe σ [i]).set i (some v)) := by
  have e : (L2.wipe σ [i]).set i (some v) = σ.set i (some v) := by
    show (σ.set i none).set i (some v) = _
    rw [List.set_set]
  rw [e]
  exact h.set i r
end

section
variable (K : PySem.W.Frag) (T : List (Addr × Str))
/-- what lies at a cell -/
def CAt (H : Hp) (θ : Th) (k : Nat) : Cell → Prop
  | .lst ds => ∃ a xs, θ.2[k]? = some (some (a, [])) ∧ H a = some (.lst xs) ∧ VRs K H θ ds xs
  | .dead => Dead θ k
  | .obj _ _ => False
  | .st _ => False
/-- the store, the tables -/
structure SRel (H : Hp) (θ : Th) (μ : Store) : Prop where
  len : θ.2.length = μ.length
  nd : ∀ i j b, In θ i b → In θ j b → i = j
  at_ : ∀ (k : Nat) (c : Cell), μ[k]? = some c → CAt K H θ k c
  tab : LamX.Tabs T H
  hz : ∀ b ∈ θ.1, ¬ Nil H b ∧ ∀ k, ¬ In θ k b
  nn : ∀ k b, In θ k b → ¬ Nil H b
end
section
variable {K : PySem.W.Frag} {T : List (Addr × Str)} {H H' : Hp} {θ θ' : Th} {μ : Store}
theorem vrs_of (hv : ∀ d v, VR K H θ d v → VR K H' θ' d v) : ∀ {ds : List D} {vs : List V}, VRs K H θ ds vs → VRs K H' θ' ds vs
  | _, _, .nil => .nil
  | _, _, .cons r t => .cons (hv _ _ r) (vrs_of hv t)
theorem CAt.move {k : Nat} {c : Cell} (hv : ∀ d v, VR K H θ d v → VR K H' θ' d v) (hk : θ'.2[k]? = θ.2[k]?) (hh : ∀ b, In θ k b → H' b = H b) (h : CAt K H θ k c) : CAt K H' θ' k c := by
  cases c with
  | lst ds =>
    obtain ⟨a, xs, e, e2, r⟩ := h
    exact ⟨a, xs, hk.trans e, (hh a ⟨a, [], e, .inl rfl⟩).trans e2, vrs_of hv r⟩
  | dead => exact hk.trans h
  | obj c fs => exact h.elim
  | st r => exact h.elim
theorem notNil {H : Hp} {a : Addr} {o : HO} (e : H a = some o) (no : ∀ ps, o ≠ .tbl ps) : ¬ Nil H a := fun z => by
  obtain ⟨ps, y⟩ := z _ e
  exact no ps y
theorem SRel.fresh (h : SRel K T H θ μ) {p : Addr} (hp : H p = none) : Out p θ := ⟨fun hm => (h.hz p hm).1 (.of hp), fun k hm => h.nn k p hm (.of hp)⟩
/-- a new object is laid -/
theorem Step.new (h : SRel K T H θ μ) {p : Addr} (hp : H p = none) (o : HO) : Step θ H θ (upd H p o) :=
  ⟨rfl, Nat.le_refl _, fun _ _ h => .inl h, fun _ h => h, fun _ _ h => .inl h, fun b u e _ _ => by rw [upd_ne (ne_of_none e hp)]; exact e, fun b e => Nil.upd (.of hp) e⟩
theorem In.nep (h : SRel K T H θ μ) {p b : Addr} {k : Nat} (hp : H p = none) (hb : In θ k b) : b ≠ p := fun e => h.nn k b hb (e ▸ .of hp)
theorem SRel.new (h : SRel K T H θ μ) {p : Addr} (hp : H p = none) (o : HO) : SRel K T (upd H p o) θ μ :=
  ⟨h.len, h.nd, fun k c e => (h.at_ k c e).move (fun d v r => r.step (Step.new h hp o)) rfl (fun b hb => upd_ne (In.nep h hp hb)),
   h.tab.ext fun b u e => by rw [upd_ne (ne_of_none e hp)]; exact e,
   fun b hb => ⟨fun z => (h.hz b hb).1 ((Step.new h hp o).dom b z), (h.hz b hb).2⟩,
   fun k b hb z => h.nn k b hb ((Step.new h hp o).dom b z)⟩
theorem In.snoc {x : Option (Addr × List Addr)} {k : Nat} {b : Addr} (h : In (θ.1, θ.2 ++ [x]) k b) : In θ k b ∨ (k = θ.2.length ∧ ∃ a own, x = some (a, own) ∧ (b = a ∨ b ∈ own)) := by
  obtain ⟨a, own, e, hb⟩ := h
  have e : (θ.2 ++ [x])[k]? = some (some (a, own)) := e
  by_cases hk : k < θ.2.length
  · rw [List.getElem?_append_left hk] at e
    exact .inl ⟨a, own, e, hb⟩
  · rw [List.getElem?_append_right (by omega)] at e
    have hk0 : k - θ.2.length = 0 := by
      have := (List.getElem?_eq_some_iff.mp e).1
      simp at this
      omega
    rw [hk0] at e
    simp at e
    exact .inr ⟨by omega, a, own, e, hb⟩
theorem At.snoc {x : Option (Addr × List Addr)} {k : Nat} {a : Addr} (h : At θ k a) : At (θ.1, θ.2 ++ [x]) k a := by
  obtain ⟨own, e⟩ := h
  refine ⟨own, ?_⟩
  show (θ.2 ++ [x])[k]? = _
  rw [List.getElem?_append_left (List.getElem?_eq_some_iff.mp e).1]
  exact e
theorem Dead.snoc {x : Option (Addr × List Addr)} {k : Nat} (h : Dead θ k) : Dead (θ.1, θ.2 ++ [x]) k := by
  have h : θ.2[k]? = some none := h
  show (θ.2 ++ [x])[k]? = _
  rw [List.getElem?_append_left (List.getElem?_eq_some_iff.mp h).1]
  exact h
theorem snoc_last {x : Option (Addr × List Addr)} : (θ.2 ++ [x])[θ.2.length]? = some x := by
  rw [List.getElem?_append_right (Nat.le_refl _)]
  simp
/-- a new list cell -/
theorem Step.cell (h : SRel K T H θ μ) {p : Addr} (hp : H p = none) (o : HO) : Step θ H (θ.1, θ.2 ++ [some (p, [])]) (upd H p o) :=
  ⟨rfl, by simp, fun _ _ h => .inl h.snoc, fun _ h => h.snoc, fun k b hb => by
    rcases hb.snoc with z | ⟨_, a, own, e, z⟩
    · exact .inl z
    · cases e
      rcases z with z | z
      · rw [z]; exact .inr (.of hp)
      · exact absurd z (by simp), (Step.new h hp o).keep, (Step.new h hp o).dom⟩
theorem SRel.cell (h : SRel K T H θ μ) {p : Addr} (hp : H p = none) {xs : List V} {ds : List D} (r : VRs K H θ ds xs) : SRel K T (upd H p (.lst xs)) (θ.1, θ.2 ++ [some (p, [])]) (μ ++ [.lst ds]) := by
  have st := Step.cell h hp (.lst xs)
  have one : ∀ k b, In (θ.1, θ.2 ++ [some (p, [])]) k b → In θ k b ∨ (k = θ.2.length ∧ b = p) := fun k b hb => by
    rcases hb.snoc with z | ⟨e1, a, own, e, z⟩
    · exact .inl z
    · cases e
      rcases z with z | z
      · exact .inr ⟨e1, z⟩
      · cases z
  refine ⟨by simp [h.len], fun i j b hi hj => ?_, fun k c e => ?_, h.tab.ext fun b u e => by rw [upd_ne (ne_of_none e hp)]; exact e, fun b hb => ⟨fun z => (h.hz b hb).1 (st.dom b z), fun k hm => ?_⟩, fun k b hb z => ?_⟩
  · rcases one i b hi with z | ⟨z1, z2⟩ <;> rcases one j b hj with y | ⟨y1, y2⟩
    · exact h.nd i j b z y
    · exact ((h.fresh hp).2 i (y2 ▸ z)).elim
    · exact ((h.fresh hp).2 j (z2 ▸ y)).elim
    · omega
  · by_cases hk : k < μ.length
    · rw [List.getElem?_append_left hk] at e
      refine (h.at_ k c e).move (fun d v r => r.step st) ?_ (fun b hb => upd_ne (In.nep h hp hb))
      show (θ.2 ++ [some (p, [])])[k]? = _
      rw [List.getElem?_append_left (by rw [h.len]; exact hk)]
    · rw [List.getElem?_append_right (by omega)] at e
      have hk0 : k - μ.length = 0 := by
        have := (List.getElem?_eq_some_iff.mp e).1
        simp at this
        omega
      rw [hk0] at e
      simp at e
      subst e
      refine ⟨p, xs, ?_, upd_same, r.step st⟩
      have ek : k = θ.2.length := by rw [h.len]; omega
      show (θ.2 ++ [some (p, [])])[k]? = _
      rw [ek]
      exact snoc_last
  · rcases one k b hm with z | ⟨_, z⟩
    · exact (h.hz b hb).2 k z
    · exact (h.hz b hb).1 (z ▸ .of hp)
  · rcases one k b hb with y | ⟨_, y⟩
    · exact h.nn k b y (st.dom b z)
    · rw [y] at z
      exact notNil upd_same (fun _ q => by cases q) z
/-- a list cell is written -/
theorem Step.write {a : Addr} {k : Nat} (ha : In θ k a) (ys : List V) : Step θ H θ (upd H a (.lst ys)) :=
  ⟨rfl, Nat.le_refl _, fun _ _ h => .inl h, fun _ h => h, fun _ _ h => .inl h, fun b u e _ n => by
    have nb : b ≠ a := fun z => n k (by rw [z]; exact ha)
    rw [upd_ne nb]; exact e, fun b e => Nil.upd2 (fun _ z => by cases z) e⟩
theorem tabs_lst {a : Addr} {xs ys : List V} (h : LamX.Tabs T H) (e : H a = some (.lst xs)) : LamX.Tabs T (upd H a (.lst ys)) := fun p hp => by
  obtain ⟨ps, h1, h2, h3⟩ := h p hp
  refine ⟨ps, by rw [upd_ne (fun z => by rw [z, e] at h1; cases h1)]; exact h1, h2, fun pos cv hc => ?_⟩
  obtain ⟨c, e1, e2⟩ := h3 pos cv hc
  refine ⟨c, e1, by rw [upd_ne (fun z => by rw [z, e] at e2; unfold LamX.CodeO at e2; cases e2)]; exact e2⟩
theorem SRel.write (h : SRel K T H θ μ) {k : Nat} {a : Addr} {xs ys : List V} {ds : List D} (ek : θ.2[k]? = some (some (a, []))) (ea : H a = some (.lst xs)) (r : VRs K H θ ds ys) : SRel K T (upd H a (.lst ys)) θ (μ.set k (.lst ds)) := by
  have ha : In θ k a := ⟨a, [], ek, .inl rfl⟩
  have st := Step.write (H := H) ha ys
  refine ⟨by simp [h.len], h.nd, fun j c e => ?_, tabs_lst h.tab ea, fun b hb => ⟨fun z => (h.hz b hb).1 (st.dom b z), (h.hz b hb).2⟩, fun j b hb z => h.nn j b hb (st.dom b z)⟩
  by_cases hj : k = j
  · subst hj
    have hk : k < μ.length := by rw [← h.len]; exact (List.getElem?_eq_some_iff.mp ek).1
    rw [List.getElem?_set_self hk] at e
    cases e
    exact ⟨a, ys, ek, upd_same, r.step st⟩
  · rw [List.getElem?_set_ne hj] at e
    refine (h.at_ j c e).move (fun d v r => r.step st) rfl (fun b hb => upd_ne fun z => hj (h.nd k j a ha (z ▸ hb)))
theorem SRel.cellAt (h : SRel K T H θ μ) {k : Nat} {ds : List D} (e : cellL μ k = some ds) : ∃ a xs, θ.2[k]? = some (some (a, [])) ∧ H a = some (.lst xs) ∧ VRs K H θ ds xs := by
  unfold cellL at e
  split at e
  · rename_i xs q
    cases e
    exact h.at_ k _ q
  · cases e
/-- a cell is frozen -/
theorem set_at {k j : Nat} : (θ.2.set k none)[j]? = if k = j then (if j < θ.2.length then some none else none) else θ.2[j]? := by
  by_cases h : k = j
  · subst h
    rw [if_pos rfl]
    split
    · rename_i hl; exact List.getElem?_set_self hl
    · rename_i hl; exact List.getElem?_eq_none (by simpa using hl)
  · rw [if_neg h]
    exact List.getElem?_set_ne h
theorem In.froze {k j : Nat} {b : Addr} (h : In (θ.1, θ.2.set k none) j b) : j ≠ k ∧ In θ j b := by
  obtain ⟨a, own, e, hb⟩ := h
  have e : (θ.2.set k none)[j]? = some (some (a, own)) := e
  rw [set_at] at e
  split at e
  · split at e <;> cases e
  · rename_i hj
    exact ⟨fun z => hj z.symm, a, own, e, hb⟩
theorem Step.froze (k : Nat) : Step θ H (θ.1, θ.2.set k none) H := by
  refine ⟨rfl, by simp, fun j a h => ?_, fun j h => ?_, fun j b h => .inl h.froze.2, fun _ _ h _ _ => h, fun _ h => h⟩
  · by_cases hj : k = j
    · refine .inr ?_
      show (θ.2.set k none)[j]? = _
      rw [set_at, if_pos hj, if_pos h.inn.lt]
    · obtain ⟨own, e⟩ := h
      refine .inl ⟨own, ?_⟩
      show (θ.2.set k none)[j]? = _
      rw [set_at, if_neg hj]
      exact e
  · show (θ.2.set k none)[j]? = _
    rw [set_at]
    have h : θ.2[j]? = some none := h
    split
    · rw [if_pos (List.getElem?_eq_some_iff.mp h).1]
    · exact h
theorem SRel.froze (h : SRel K T H θ μ) {k : Nat} (hk : k < μ.length) : SRel K T H (θ.1, θ.2.set k none) (μ.set k .dead) := by
  refine ⟨by simp [h.len], fun i j b hi hj => h.nd i j b hi.froze.2 hj.froze.2, fun j c e => ?_, h.tab, fun b hb => ⟨(h.hz b hb).1, fun j z => (h.hz b hb).2 j z.froze.2⟩, fun j b hb => h.nn j b hb.froze.2⟩
  by_cases hj : k = j
  · subst hj
    rw [List.getElem?_set_self hk] at e
    cases e
    show (θ.2.set k none)[k]? = _
    rw [set_at, if_pos rfl, if_pos (by rw [h.len]; exact hk)]
  · rw [List.getElem?_set_ne hj] at e
    refine (h.at_ j c e).move (fun d v r => r.step (Step.froze k)) ?_ (fun b hb => rfl)
    show (θ.2.set k none)[j]? = _
    rw [set_at, if_neg hj]
theorem VR.froze (h : SRel K T H θ μ) {k : Nat} {a : Addr} {xs : List V} {ds : List D} (ek : θ.2[k]? = some (some (a, []))) (ea : H a = some (.lst xs)) (r : VRs K H θ ds xs) : VR K H (θ.1, θ.2.set k none) (.list ds) (.ref a) := by
  refine .lst ea ⟨fun hm => (h.hz a hm).2 k ⟨a, [], ek, .inl rfl⟩, fun j hj => ?_⟩ (r.step (Step.froze k))
  exact hj.froze.1 (h.nd j k a hj.froze.2 ⟨a, [], ek, .inl rfl⟩)
/-- a call's own cells are dropped -/
theorem In.take {n k : Nat} {b : Addr} : In (θ.1, θ.2.take n) k b ↔ k < n ∧ In θ k b := by
  constructor
  · rintro ⟨a, own, e, hb⟩
    have e : (θ.2.take n)[k]? = some (some (a, own)) := e
    have hk : k < n := by
      have := (List.getElem?_eq_some_iff.mp e).1
      simp at this
      omega
    rw [List.getElem?_take_of_lt hk] at e
    exact ⟨hk, a, own, e, hb⟩
  · rintro ⟨hk, a, own, e, hb⟩
    refine ⟨a, own, ?_, hb⟩
    show (θ.2.take n)[k]? = _
    rw [List.getElem?_take_of_lt hk]
    exact e
theorem Out.take {n : Nat} {a : Addr} (h : Out a θ) : Out a (θ.1, θ.2.take n) := ⟨h.1, fun k z => h.2 k (In.take.mp z).2⟩
theorem SRel.drop {μ' : Store} (h : SRel K T H' θ' μ') {n : Nat} : SRel K T H' (θ'.1, θ'.2.take n) (μ'.take n) := by
  refine ⟨by simp [h.len], fun i j b hi hj => h.nd i j b (In.take.mp hi).2 (In.take.mp hj).2, fun k c e => ?_, h.tab, fun b hb => ⟨(h.hz b hb).1, fun k z => (h.hz b hb).2 k (In.take.mp z).2⟩, fun k b hb => h.nn k b (In.take.mp hb).2⟩
  have hk : k < n := by
    have := (List.getElem?_eq_some_iff.mp e).1
    simp at this
    omega
  rw [List.getElem?_take_of_lt hk] at e
  refine (h.at_ k c e).move (fun d v r => VR.less (θ := θ') (θ' := (θ'.1, θ'.2.take n)) (fun b hb => hb.take) r) ?_ (fun b hb => rfl)
  show (θ'.2.take n)[k]? = _
  rw [List.getElem?_take_of_lt hk]
theorem VR.drop {n : Nat} {d : D} {v : V} (h : VR K H θ d v) : VR K H (θ.1, θ.2.take n) d v := VR.less (θ := θ) (θ' := (θ.1, θ.2.take n)) (fun b hb => hb.take) h
theorem Step.drop (st : Step θ H θ' H') : Step θ H (θ'.1, θ'.2.take θ.2.length) H' := by
  have ht : ∀ k, k < θ.2.length → (θ'.2.take θ.2.length)[k]? = θ'.2[k]? := fun k hk => List.getElem?_take_of_lt hk
  refine ⟨st.hd, by simp [st.len], fun k a h => ?_, fun k h => ?_, fun k b hb => st.p2 k b (In.take.mp hb).2, st.keep, st.dom⟩
  · have hk := h.inn.lt
    rcases st.p1 k a h with ⟨own, z⟩ | z
    · exact .inl ⟨own, (ht k hk).trans z⟩
    · exact .inr ((ht k hk).trans z)
  · exact (ht k (List.getElem?_eq_some_iff.mp h).1).trans (st.p0 k h)
/-- a new address is held -/
theorem Out.hold {p a : Addr} {o : HO} (e : H a = some o) (hp : H p = none) (n : Out a θ) : Out a (p :: θ.1, θ.2) := by
  refine ⟨fun hm => ?_, n.2⟩
  rcases List.mem_cons.mp hm with z | z
  · rw [z, hp] at e; cases e
  · exact n.1 z
mutual
theorem VR.hold {p : Addr} {o : HO} (hp : H p = none) : ∀ {d : D} {v : V}, VR K H θ d v → VR K (upd H p o) (p :: θ.1, θ.2) d v
  | _, _, .non => .non
  | _, _, .bl b => .bl b
  | _, _, .int i => .int i
  | _, _, .str x => .str x
  | _, _, .lst e n t => .lst ((upd_ne (ne_of_none e hp)).trans e) (Out.hold e hp n) (VRs.hold hp t)
  | _, _, .tup e n t => .tup ((upd_ne (ne_of_none e hp)).trans e) (Out.hold e hp n) (VRs.hold hp t)
  | _, _, .tupK e t => .tupK e (VRs.hold hp t)
theorem VRs.hold {p : Addr} {o : HO} (hp : H p = none) : ∀ {ds : List D} {vs : List V}, VRs K H θ ds vs → VRs K (upd H p o) (p :: θ.1, θ.2) ds vs
  | _, _, .nil => .nil
  | _, _, .cons r t => .cons (VR.hold hp r) (VRs.hold hp t)
end
theorem SRel.hold (h : SRel K T H θ μ) {p : Addr} {ys : List V} (hp : H p = none) : SRel K T (upd H p (.lst ys)) (p :: θ.1, θ.2) μ := by
  refine ⟨h.len, h.nd, fun k c e => (h.at_ k c e).move (fun d v r => r.hold hp) rfl (fun b hb => upd_ne (In.nep h hp hb)), (h.new hp (.lst ys)).tab, fun b hb => ?_, (h.new hp (.lst ys)).nn⟩
  rcases List.mem_cons.mp hb with e | e
  · rw [e]; exact ⟨notNil upd_same (fun _ q => by cases q), (h.fresh hp).2⟩
  · exact (h.new hp (.lst ys)).hz b e
theorem ERel.hold {en : En} {σ : St} (h : ERel K H θ en σ) {p : Addr} {o : HO} (hp : H p = none) : ERel K (upd H p o) (p :: θ.1, θ.2) en σ :=
  ⟨h.len, fun i x e => by
    obtain ⟨v, e1, r⟩ := h.at_ i x e
    refine ⟨v, e1, ?_⟩
    cases x with
    | d x => exact VR.hold hp r
    | c k => exact r⟩
/-- it is let go -/
theorem VR.let {p : Addr} {z : List Addr} {t : List (Option (Addr × List Addr))} {d : D} {v : V} (h : VR K H (p :: z, t) d v) : VR K H (z, t) d v := VR.less (θ := (p :: z, t)) (θ' := (z, t)) (fun b hb => ⟨fun q => hb.1 (List.mem_cons_of_mem _ q), hb.2⟩) h
theorem VRs.let {p : Addr} {z : List Addr} {t : List (Option (Addr × List Addr))} {d : List D} {v : List V} (h : VRs K H (p :: z, t) d v) : VRs K H (z, t) d v := VRs.less (θ := (p :: z, t)) (θ' := (z, t)) (fun b hb => ⟨fun q => hb.1 (List.mem_cons_of_mem _ q), hb.2⟩) h
theorem SRel.let {p : Addr} {z : List Addr} {t : List (Option (Addr × List Addr))} (h : SRel K T H (p :: z, t) μ) : SRel K T H (z, t) μ :=
  ⟨h.len, h.nd, fun k c e => (h.at_ k c e).move (fun d v r => r.let) rfl (fun b hb => rfl), h.tab, fun b hb => h.hz b (List.mem_cons_of_mem _ hb), h.nn⟩
mutual
theorem VR.wr {p : Addr} {o : HO} {z : List Addr} {t : List (Option (Addr × List Addr))} : ∀ {d : D} {v : V}, VR K H (p :: z, t) d v → VR K (upd H p o) (p :: z, t) d v
  | _, _, .non => .non
  | _, _, .bl b => .bl b
  | _, _, .int i => .int i
  | _, _, .str x => .str x
  | _, _, .lst e n t => .lst ((upd_ne (fun q => n.1 (by rw [q]; exact List.mem_cons_self))).trans e) n (VRs.wr t)
  | _, _, .tup e n t => .tup ((upd_ne (fun q => n.1 (by rw [q]; exact List.mem_cons_self))).trans e) n (VRs.wr t)
  | _, _, .tupK e t => .tupK e (VRs.wr t)
theorem VRs.wr {p : Addr} {o : HO} {z : List Addr} {t : List (Option (Addr × List Addr))} : ∀ {ds : List D} {vs : List V}, VRs K H (p :: z, t) ds vs → VRs K (upd H p o) (p :: z, t) ds vs
  | _, _, .nil => .nil
  | _, _, .cons r t => .cons (VR.wr r) (VRs.wr t)
end
theorem SRel.wr {p : Addr} {xs ys : List V} {z : List Addr} {t : List (Option (Addr × List Addr))} (h : SRel K T H (p :: z, t) μ) (hp : H p = some (.lst xs)) : SRel K T (upd H p (.lst ys)) (p :: z, t) μ :=
  ⟨h.len, h.nd, fun k c e => (h.at_ k c e).move (fun d v r => r.wr) rfl (fun b hb => upd_ne fun q => (h.hz p List.mem_cons_self).2 k (q ▸ hb)), tabs_lst h.tab hp, fun b hb => ⟨fun q => (h.hz b hb).1 (Nil.upd2 (fun _ z => by cases z) q), (h.hz b hb).2⟩,
   fun k b hb q => h.nn k b hb (Nil.upd2 (fun _ z => by cases z) q)⟩
end

section
variable (K : PySem.W.Frag) (T : List (Addr × Str)) (Ce : Nat → Addr)
/-- what a run's end promises -/
def Wp {α β : Type} (rel : Hp → Th → α → β → Prop) (W : WX) (σ : St) (θ : Th) (H : Hp) (r : Option (Res α)) (Q : β → Hp → Prop) : Prop := match r with
  | none => False
  | some (.ok a μ') => ∀ θ' H' v, Step θ H θ' H' → SRel K T H' θ' μ' → rel H' θ' a v → Q v H'
  | some (.exc c μ') => ∀ θ' H', Step θ H θ' H' → SRel K T H' θ' μ' → W (.ref (Ce c)) none σ H'
end
section
variable {K : PySem.W.Frag} {T : List (Addr × Str)} {Ce : Nat → Addr} {α β γ δ : Type} {rel : Hp → Th → α → β → Prop} {rel2 : Hp → Th → γ → δ → Prop} {W : WX} {σ : St} {θ θ1 : Th} {H H1 : Hp} {μ : Store}
theorem Wp.mono {r : Option (Res α)} {Q Q' : β → Hp → Prop} (h : Wp K T Ce rel W σ θ H r Q) (hq : ∀ x H', Q x H' → Q' x H') : Wp K T Ce rel W σ θ H r Q' := by
  cases r with
  | none => exact h
  | some r =>
    cases r with
    | ok a μ' => exact fun θ' H' v st sr rl => hq _ _ (h θ' H' v st sr rl)
    | exc c μ' => exact h
theorem Wp.step {r : Option (Res α)} {Q : β → Hp → Prop} (h : Wp K T Ce rel W σ θ H r Q) (st : Step θ H θ1 H1) : Wp K T Ce rel W σ θ1 H1 r Q := by
  cases r with
  | none => exact h
  | some r =>
    cases r with
    | ok a μ' => exact fun θ' H' v st' sr rl => h θ' H' v (st.trans st') sr rl
    | exc c μ' => exact fun θ' H' st' sr => h θ' H' (st.trans st') sr
theorem Wp.bind {m : M α} {k : α → M γ} {Q : δ → Hp → Prop} (h : Wp K T Ce rel2 W σ θ H (M.bind m k μ) Q) :
    Wp K T Ce rel W σ θ H (m μ) (fun x H1 => ∃ θ1 d μ1, Step θ H θ1 H1 ∧ SRel K T H1 θ1 μ1 ∧ rel H1 θ1 d x ∧ Wp K T Ce rel2 W σ θ1 H1 (k d μ1) Q) := by
  unfold M.bind at h
  cases e : m μ with
  | none => rw [e] at h; exact h
  | some r =>
    rw [e] at h
    cases r with
    | ok a μ' => exact fun θ' H' v st sr rl => ⟨θ', a, μ', st, sr, rl, h.step st⟩
    | exc c μ' => exact h
theorem Wp.ofB {o : Option α} {k : α → M γ} {Q : δ → Hp → Prop} (h : Wp K T Ce rel2 W σ θ H (M.bind (M.of o) k μ) Q) : ∃ a, o = some a ∧ Wp K T Ce rel2 W σ θ H (k a μ) Q := by
  cases o with
  | none => exact h.elim
  | some a => exact ⟨a, rfl, h⟩
theorem Wp.of {o : Option α} {Q : β → Hp → Prop} (h : Wp K T Ce rel W σ θ H (M.of o μ) Q) (sr : SRel K T H θ μ) : ∃ a, o = some a ∧ ∀ θ' H' v, Step θ H θ' H' → SRel K T H' θ' μ → rel H' θ' a v → Q v H' := by
  cases o with
  | none => exact h.elim
  | some a => exact ⟨a, rfl, h⟩
end
end Mp

set_option maxRecDepth 100000
set_option maxHeartbeats 2000000
/-! Mp2: the operations on data, by the layer's rules. -/
namespace Mp
open PySem L2
theorem PE.imp {X : Cx} {e : Expr} {t t' : TE} (h : PE X e t) (hi : ∀ σ H Q, t' σ H Q → t σ H Q) : PE X e t' := ⟨fun pins s σ H Q I q => h.run pins s σ H Q I (hi σ H Q q)⟩
theorem PT.imp {X : Cx} {e : Expr} {t t' : TT} (h : PT X e t) (hi : ∀ σ H Q, t' σ H Q → t σ H Q) : PT X e t' := ⟨fun pins s σ H Q I q => h.run pins s σ H Q I (hi σ H Q q)⟩
theorem PW.imp {X : Cx} {e : Expr} {t t' : TT} (h : PW X e t) (hi : ∀ σ H Q, t' σ H Q → t σ H Q) : PW X e t' := ⟨fun wh pins s σ H Q I q => h.run wh pins s σ H Q I (hi σ H Q q)⟩
theorem PA.imp {X : Cx} {e : List Expr} {t t' : TA} (h : PA X e t) (hi : ∀ σ H Q, t' σ H Q → t σ H Q) : PA X e t' := ⟨fun pos pins s σ H Q I q => h.run pos pins s σ H Q I (hi σ H Q q)⟩
theorem PS.imp {X : Cx} {e : Stmt} {t t' : TS} (h : PS X e t) (hi : ∀ D σ H, t' D σ H → t D σ H) : PS X e t' := ⟨fun pins s σ H D I q => h.run pins s σ H D I (hi D σ H q)⟩
theorem PSs.imp {X : Cx} {e : List Stmt} {t t' : TS} (h : PSs X e t) (hi : ∀ D σ H, t' D σ H → t D σ H) : PSs X e t' := ⟨fun pins s σ H D I q => h.run pins s σ H D I (hi D σ H q)⟩

def opOf : BOp → Operator
  | .add => .Add
  | .sub => .Sub
  | .mul => .Mult
  | .fdiv => .FloorDiv
  | .mod => .Mod
  | .pow => .Pow
theorem line6 {n : Nat} (h : n ≤ 1000000) : n ≤ sizeLine := by rw [sizeLine_eq]; omega
theorem line6' {n : Nat} (h : n < 1000000) : n < sizeLine := by rw [sizeLine_eq]; omega
section
variable {X : Cx} {T : List (Addr × Str)}
/-- what is behind an operation on data -/
abbrev After (K : PySem.W.Frag) (T : List (Addr × Str)) (θ : Th) (H : Hp) (μ : Store) (d : D) (Q : VK) : Prop := ∀ θ' H' v, Step θ H θ' H' → SRel K T H' θ' μ → VR K H' θ' d v → Q v H'
theorem After.here {K : PySem.W.Frag} {θ : Th} {H : Hp} {μ : Store} {d : D} {Q : VK} (h : After K T θ H μ d Q) (sr : SRel K T H θ μ) {v : V} (r : VR K H θ d v) : Q v H := h θ H v .refl sr r
theorem After.newL {K : PySem.W.Frag} {θ : Th} {H : Hp} {μ : Store} {ds : List D} {vs : List V} {Q : VK} (h : After K T θ H μ (.list ds) Q) (sr : SRel K T H θ μ) (r : VRs K H θ ds vs) {p : Addr} (hp : H p = none) : Q (.ref p) (upd H p (.lst vs)) :=
  h θ _ _ (Step.new sr hp _) (sr.new hp _) (.lst upd_same (sr.fresh hp) (r.step (Step.new sr hp _)))
theorem After.newT {K : PySem.W.Frag} {θ : Th} {H : Hp} {μ : Store} {ds : List D} {vs : List V} {Q : VK} (h : After K T θ H μ (.tuple ds) Q) (sr : SRel K T H θ μ) (r : VRs K H θ ds vs) {p : Addr} (hp : H p = none) : Q (.ref p) (upd H p (.tup vs)) :=
  h θ _ _ (Step.new sr hp _) (sr.new hp _) (.tup upd_same (sr.fresh hp) (r.step (Step.new sr hp _)))
def rBop (K : PySem.W.Frag) (T : List (Addr × Str)) (op : BOp) : R2 := fun x y H Q => ∃ θ μ d1 d2 d, SRel K T H θ μ ∧ VR K H θ d1 x ∧ VR K H θ d2 y ∧ bop op d1 d2 = some d ∧ After K T θ H μ d Q
theorem mulOk_ok {i j : Int} (h : mulOk i j = true) : IntMulOk i j := by
  have h := of_decide_eq_true h
  have b : ∀ x : Int, Builtin.Int.intBits x ≤ x.natAbs.log2 + 1 := fun x => by
    unfold Builtin.Int.intBits
    split <;> omega
  have h1 := b i
  have h2 := b j
  have e : bitsLine = 134217728 := by decide
  unfold IntMulOk
  intro z
  rw [Bool.and_eq_true] at z
  have z2 := z.2
  unfold Builtin.Int.intTooBig at z2
  have z3 := of_decide_eq_true z2
  rw [e] at z3
  omega
theorem op_mulD : OpR X (binaryOp .Mult) (rI (fun i j => mulOk i j = true) fun i j => .int (i * j)) := opI fun _ _ _ _ _ _ _ hc q => PyProof.Rows.mul_int q (mulOk_ok hc)
theorem op_fdivD : OpR X (binaryOp .FloorDiv) (rI (fun i j => divOk j = true) fun i j => .int (i.fdiv j)) := opI fun i j _ _ _ _ _ hc q => by
  have h1 := Bool.and_eq_true_iff.mp hc
  exact PyProof.Rows.floordiv_int (of_decide_eq_true h1.1) q (.inl (PyProof.noPylong_of_log2 (of_decide_eq_true h1.2)))
theorem rep_rel {K : PySem.W.Frag} {H : Hp} {θ : Th} {ds : List D} {vs : List V} (r : VRs K H θ ds vs) : ∀ n, VRs K H θ (List.replicate n ds).flatten (List.replicate n vs).flatten
  | 0 => .nil
  | n + 1 => by
    rw [List.replicate_succ, List.replicate_succ, List.flatten_cons, List.flatten_cons]
    exact r.append (rep_rel r n)
theorem bop_ok (op : BOp) : OpR X (binaryOp (opOf op)) (rBop X.K T op) := by
  intro pins s σ H x y v u Q I rx ry h
  obtain ⟨θ, μ, d1, d2, d, sr, r1, r2, e, af⟩ := h
  cases op with
  | add =>
    cases d1 with
    | int i =>
      cases d2 with
      | int j =>
        cases r1; cases r2; cases e
        exact op_add pins s σ H _ _ v u Q I rx ry ⟨i, j, rfl, rfl, af.here sr (.int _)⟩
      | _ => cases e
    | list xs =>
      cases d2 with
      | list ys =>
        have e : (if xs.length + ys.length ≤ 1000000 then some (PyData.list (xs ++ ys)) else none) = some d := e
        split at e
        · cases e
          obtain ⟨a, vs, rfl, ha, na, rs⟩ := r1.lstOf
          obtain ⟨b, us, rfl, hb, nb, ts⟩ := r2.lstOf
          refine op_cat pins s σ H _ _ v u Q I rx ry ⟨a, b, vs, us, rfl, rfl, ha, hb, ?_, fun p hp => af.newL sr (rs.append ts) hp⟩
          rw [← rs.length, ← ts.length]
          exact line6 (by assumption)
        · cases e
      | _ => cases e
    | tuple xs =>
      cases d2 with
      | tuple ys =>
        have e : (if xs.length + ys.length ≤ 1000000 then some (PyData.tuple (xs ++ ys)) else none) = some d := e
        split at e
        · rename_i hc
          cases e
          obtain ⟨a, vs, rfl, ha, rs⟩ := r1.tupOf
          obtain ⟨b, us, rfl, hb, ts⟩ := r2.tupOf
          refine op_catA pins s σ H _ _ v u Q I rx ry ⟨a, b, vs, us, rfl, rfl, ha, hb, ?_, fun z => ?_, fun _ z => ?_, fun _ _ p hp => af.newT sr (rs.append ts) hp⟩
          · rw [← rs.length, ← ts.length]
            exact line6 hc
          · subst z
            cases rs
            exact af.here sr r2
          · subst z
            cases ts
            rw [List.append_nil] at af
            exact af.here sr r1
        · cases e
      | _ => cases e
    | str a =>
      cases d2 with
      | str b =>
        have e : (if a.length + b.length ≤ 1000000 then some (PyData.str (a ++ b)) else none) = some d := e
        split at e
        · cases e
          cases r1; cases r2
          exact op_add_str pins s σ H _ _ v u Q I rx ry ⟨a, b, rfl, rfl, line6 (by assumption), af.here sr (.str _)⟩
        · cases e
      | _ => cases e
    | _ => cases d2 <;> cases e
  | sub =>
    cases d1 with
    | int i =>
      cases d2 with
      | int j =>
        cases r1; cases r2; cases e
        exact op_sub pins s σ H _ _ v u Q I rx ry ⟨i, j, rfl, rfl, af.here sr (.int _)⟩
      | _ => cases e
    | _ => cases d2 <;> cases e
  | mul =>
    cases d1 with
    | int i =>
      cases d2 with
      | int j =>
        have e : (if mulOk i j = true then some (PyData.int (i * j)) else none) = some d := e
        split at e
        · rename_i hc
          cases r1; cases r2; cases e
          exact op_mulD pins s σ H _ _ v u Q I rx ry ⟨i, j, rfl, rfl, hc, af.here sr (.int _)⟩
        · cases e
      | _ => cases e
    | tuple xs =>
      cases d2 with
      | int j =>
        have e : (if repOk xs.length j = true then some (PyData.tuple (List.replicate j.toNat xs).flatten) else none) = some d := e
        split at e
        · rename_i hc
          cases r2; cases e
          unfold repOk at hc
          simp only [Bool.and_eq_true, decide_eq_true_eq] at hc
          obtain ⟨⟨⟨h1, h2⟩, h3⟩, h4⟩ := hc
          obtain ⟨a, vs, rfl, ha, rs⟩ := r1.tupOf
          have hl := rs.length
          refine op_repT pins s σ H _ _ v u Q I rx ry ⟨a, j, vs, rfl, rfl, ha, fun z => ?_, h2, h3, by omega, fun p hp => af.newT sr (rep_rel rs j.toNat) hp⟩
          rw [z] at hl
          simp at hl
          rw [hl] at h1
          exact absurd h1 (by decide)
        · cases e
      | _ => cases e
    | _ => cases d2 <;> cases e
  | fdiv =>
    cases d1 with
    | int i =>
      cases d2 with
      | int j =>
        have e : (if divOk j = true then some (PyData.int (i.fdiv j)) else none) = some d := e
        split at e
        · rename_i hc
          cases r1; cases r2; cases e
          exact op_fdivD pins s σ H _ _ v u Q I rx ry ⟨i, j, rfl, rfl, hc, af.here sr (.int _)⟩
        · cases e
      | _ => cases e
    | _ => cases d2 <;> cases e
  | mod =>
    cases d1 with
    | int i =>
      cases d2 with
      | int j =>
        have e : (if j ≠ 0 then some (PyData.int (i.fmod j)) else none) = some d := e
        split at e
        · rename_i hc
          cases r1; cases r2; cases e
          exact op_modN pins s σ H _ _ v u Q I rx ry ⟨i, j, rfl, rfl, hc, af.here sr (.int _)⟩
        · cases e
      | _ => cases e
    | _ => cases d2 <;> cases e
  | pow =>
    cases d1 with
    | int i =>
      cases d2 with
      | int j =>
        have e : (if powOk i j = true then some (PyData.int (i ^ j.toNat)) else none) = some d := e
        split at e
        · rename_i hc
          cases r1; cases r2; cases e
          have h1 := Bool.and_eq_true_iff.mp hc
          have h2 := Bool.and_eq_true_iff.mp h1.1
          exact op_pow pins s σ H _ _ v u Q I rx ry ⟨i, j, rfl, rfl, ⟨of_decide_eq_true h2.1, of_decide_eq_true h2.2, of_decide_eq_true h1.2⟩, af.here sr (.int _)⟩
        · cases e
      | _ => cases e
    | _ => cases d2 <;> cases e

/-! ### comparisons -/
def copOf : COp → CmpOp
  | .eq => .Eq
  | .ne => .NotEq
  | .lt => .Lt
  | .le => .LtE
  | .gt => .Gt
  | .ge => .GtE
  | .isn => .Is
  | .isnn => .IsNot
  | .inn => .In
  | .nin => .NotIn
def rCop (K : PySem.W.Frag) (T : List (Addr × Str)) (op : COp) : R2 := fun x y H Q => ∃ θ μ d1 d2 b, SRel K T H θ μ ∧ VR K H θ d1 x ∧ VR K H θ d2 y ∧ cop op d1 d2 = some b ∧ Q (.bl b) H
theorem flat_V {K : PySem.W.Frag} {H : Hp} {θ : Th} {d : D} {v : V} (r : VR K H θ d v) (f : flatD d = true) : flatV v = true := by
  cases r <;> first | rfl | cases f
theorem eqv_flat {K : PySem.W.Frag} {H : Hp} {θ : Th} {d e : D} {v u : V} (r : VR K H θ d v) (q : VR K H θ e u) (f : flatD d = true) (g : flatD e = true) : eqV v u = PyData.eqv d e := by
  cases r <;> cases q <;> first | rfl | cases f | cases g | (unfold PyData.eqv; rfl) | (simp [eqV, PyData.eqv])
theorem flat_Vs {K : PySem.W.Frag} {H : Hp} {θ : Th} : ∀ {ds : List D} {vs : List V}, VRs K H θ ds vs → ds.all flatD = true → vs.all flatV = true
  | _, _, .nil, _ => rfl
  | _, _, .cons r t, h => by
    rw [List.all_cons, Bool.and_eq_true] at h
    rw [List.all_cons, flat_V r h.1, flat_Vs t h.2]
    rfl
theorem any_eqv {K : PySem.W.Frag} {H : Hp} {θ : Th} {x : D} {v : V} (rx : VR K H θ x v) (fx : flatD x = true) : ∀ {ds : List D} {vs : List V}, VRs K H θ ds vs → ds.all flatD = true → inV v vs = ds.any fun y => PyData.eqv y x
  | _, _, .nil, _ => rfl
  | _, _, .cons r t, h => by
    rw [List.all_cons, Bool.and_eq_true] at h
    unfold inV
    rw [List.any_cons, List.any_cons, eqv_flat r rx h.1 fx]
    have := any_eqv rx fx t h.2
    unfold inV at this
    rw [this]
theorem in_case {K : PySem.W.Frag} {H : Hp} {θ : Th} {x y : D} {v u : V} {b : Bool} (r1 : VR K H θ x v) (r2 : VR K H θ y u) (e : inD x y = some b) : (∃ p xs, u = .ref p ∧ (SqL K H p xs ∨ SqT K H p xs) ∧ flatV v = true ∧ xs.all flatV = true ∧ inV v xs = b) ∨ ∃ ds, y = .list ds ∧ okEq x = true ∧ okEq (.list ds) = true ∧ (ds.any fun y => PyData.eqv y x) = b := by
  cases y with
  | list ys =>
    have e : (if (flatD x && ys.all flatD) = true then some (ys.any fun y => PyData.eqv y x) else if (okEq x && okEq (.list ys)) = true then some (ys.any fun y => PyData.eqv y x) else none) = some b := e
    split at e
    · rename_i hc
      have hc := Bool.and_eq_true_iff.mp hc
      cases e
      obtain ⟨a, vs, rfl, ha, na, rs⟩ := r2.lstOf
      exact .inl ⟨a, vs, rfl, .inl (SqL.of ha), flat_V r1 hc.1, flat_Vs rs hc.2, any_eqv r1 hc.1 rs hc.2⟩
    · split at e
      · rename_i hc
        have hc := Bool.and_eq_true_iff.mp hc
        cases e
        exact .inr ⟨ys, rfl, hc.1, hc.2, rfl⟩
      · cases e
  | tuple ys =>
    have e : (if (flatD x && ys.all flatD) = true then some (ys.any fun y => PyData.eqv y x) else none) = some b := e
    split at e
    · rename_i hc
      have hc := Bool.and_eq_true_iff.mp hc
      cases e
      obtain ⟨a, vs, rfl, ha, rs⟩ := r2.tupOf
      exact .inl ⟨a, vs, rfl, .inr ha, flat_V r1 hc.1, flat_Vs rs hc.2, any_eqv r1 hc.1 rs hc.2⟩
    · cases e
  | _ => cases e
theorem isNone_V {K : PySem.W.Frag} {H : Hp} {θ : Th} {d : D} {v : V} (r : VR K H θ d v) : decide (v = .non) = isNoneD d := by
  cases r <;> first | rfl | (unfold isNoneD; exact decide_eq_false (fun z => by cases z))
theorem cop_ok (op : COp) (hu : X.A.units + 65 < cLine) : OpR X (compareOp (copOf op)) (rCop X.K T op) := by
  intro pins s σ H x y v u Q I rx ry h
  obtain ⟨θ, μ, d1, d2, b, sr, r1, r2, e, q⟩ := h
  cases op with
  | eq =>
    have e : (if (okEq d1 && okEq d2) = true then some (PyData.eqv d1 d2) else none) = some b := e
    split at e
    · rename_i hc
      have hc := Bool.and_eq_true_iff.mp hc
      cases e
      exact op_eqD (by omega) pins s σ H _ _ v u Q I rx ry ⟨d1, d2, r1.dp, r2.dp, hc.1, hc.2, q⟩
    · cases e
  | ne =>
    have e : (if (okEq d1 && okEq d2) = true then some (!PyData.eqv d1 d2) else none) = some b := e
    split at e
    · rename_i hc
      have hc := Bool.and_eq_true_iff.mp hc
      cases e
      exact op_neD (by omega) pins s σ H _ _ v u Q I rx ry ⟨d1, d2, r1.dp, r2.dp, hc.1, hc.2, q⟩
    · cases e
  | lt =>
    cases d1 with
    | int i => cases d2 with
      | int j => cases r1; cases r2; cases e; exact op_lt pins s σ H _ _ v u Q I rx ry ⟨i, j, rfl, rfl, q⟩
      | _ => cases e
    | _ => cases d2 <;> cases e
  | le =>
    cases d1 with
    | int i => cases d2 with
      | int j => cases r1; cases r2; cases e; exact op_le pins s σ H _ _ v u Q I rx ry ⟨i, j, rfl, rfl, q⟩
      | _ => cases e
    | _ => cases d2 <;> cases e
  | gt =>
    cases d1 with
    | int i => cases d2 with
      | int j => cases r1; cases r2; cases e; exact op_gt pins s σ H _ _ v u Q I rx ry ⟨i, j, rfl, rfl, q⟩
      | _ => cases e
    | _ => cases d2 <;> cases e
  | ge =>
    cases d1 with
    | int i => cases d2 with
      | int j => cases r1; cases r2; cases e; exact op_ge pins s σ H _ _ v u Q I rx ry ⟨i, j, rfl, rfl, q⟩
      | _ => cases e
    | _ => cases d2 <;> cases e
  | isn =>
    cases d2 with
    | none => cases r2; cases e; exact op_isN pins s σ H _ _ v u Q I rx ry ⟨rfl, by rw [isNone_V r1]; exact q⟩
    | _ => cases d1 <;> cases e
  | isnn =>
    cases d2 with
    | none => cases r2; cases e; exact op_notN pins s σ H _ _ v u Q I rx ry ⟨rfl, by rw [isNone_V r1]; exact q⟩
    | _ => cases d1 <;> cases e
  | inn =>
    rcases in_case r1 r2 (show inD d1 d2 = some b from e) with ⟨p, xs, rfl, hs, f1, f2, e2⟩ | ⟨ds, rfl, o1, o2, e2⟩
    · exact op_in_seq pins s σ H _ _ v u Q I rx ry ⟨p, xs, rfl, hs, f1, f2, by rw [e2]; exact q⟩
    · exact op_inD hu pins s σ H _ _ v u Q I rx ry ⟨d1, ds, r1.dp, r2.dp, o1, o2, by rw [e2]; exact q⟩
  | nin =>
    have e : (inD d1 d2).map (fun b => !b) = some b := e
    cases q1 : inD d1 d2 with
    | none => rw [q1] at e; cases e
    | some c =>
      rw [q1] at e
      cases e
      rcases in_case r1 r2 q1 with ⟨p, xs, rfl, hs, f1, f2, e2⟩ | ⟨ds, rfl, o1, o2, e2⟩
      · exact op_notIn_seq pins s σ H _ _ v u Q I rx ry ⟨p, xs, rfl, hs, f1, f2, by rw [e2]; exact q⟩
      · exact op_notInD hu pins s σ H _ _ v u Q I rx ry ⟨d1, ds, r1.dp, r2.dp, o1, o2, by rw [e2]; exact q⟩

/-! ### subscripts -/
def rIdx (K : PySem.W.Frag) (T : List (Addr × Str)) : R2 := fun x y H Q => ∃ θ μ d1 d2 d, SRel K T H θ μ ∧ VR K H θ d1 x ∧ VR K H θ d2 y ∧ idxD d1 d2 = some d ∧ After K T θ H μ d Q
theorem atI_rel {K : PySem.W.Frag} {H : Hp} {θ : Th} {ds : List D} {vs : List V} {i : Int} {d : D} (r : VRs K H θ ds vs) (h : atI ds i = some d) : ∃ v, atI vs i = some v ∧ VR K H θ d v := by
  unfold atI at h ⊢
  rw [← r.length]
  cases e : ixN ds.length i with
  | none => rw [e] at h; cases h
  | some j =>
    rw [e] at h
    obtain ⟨v, e1, q⟩ := r.get (show ds[j]? = some d from h)
    exact ⟨v, e1, q⟩
theorem idx_ok : IxR X (rIdx X.K T) := by
  intro value slice pins s σ H x y v u Q I rx ry h hs
  obtain ⟨θ, μ, d1, d2, d, sr, r1, r2, e, af⟩ := h
  cases d1 with
  | list xs => cases d2 with
    | int i =>
      cases r2
      obtain ⟨a, vs, rfl, ha, na, rs⟩ := r1.lstOf
      obtain ⟨w, e1, rw'⟩ := atI_rel rs (show atI xs i = some d from e)
      exact ix_list value slice pins s σ H _ _ v u Q I rx ry ⟨a, vs, i, w, rfl, rfl, SqL.of ha, e1, af.here sr rw'⟩ hs
    | _ => cases e
  | tuple xs => cases d2 with
    | int i =>
      cases r2
      obtain ⟨a, vs, rfl, ha, rs⟩ := r1.tupOf
      obtain ⟨w, e1, rw'⟩ := atI_rel rs (show atI xs i = some d from e)
      exact ix_tup value slice pins s σ H _ _ v u Q I rx ry ⟨a, vs, i, w, rfl, rfl, ha, e1, af.here sr rw'⟩ hs
    | _ => cases e
  | str z => cases d2 with
    | int i =>
      cases r1; cases r2
      have e : (if z.length ≤ 1000000 then (atI z.cps.toList i).map fun c => PyData.str ⟨#[c]⟩ else none) = some d := e
      split at e
      · rename_i hc
        cases q : atI z.cps.toList i with
        | none => rw [q] at e; cases e
        | some c =>
          rw [q] at e
          cases e
          exact ix_str value slice pins s σ H _ _ v u Q I rx ry ⟨z, i, c, rfl, rfl, line6 hc, q, af.here sr (.str _)⟩ hs
      · cases e
    | _ => cases e
  | _ => cases d2 <;> cases e

/-! ### slices -/
def rSl (K : PySem.W.Frag) (T : List (Addr × Str)) : V → Option Int → Option Int → Hp → VK → Prop := fun x lo hi H Q => ∃ θ μ d1 d, SRel K T H θ μ ∧ VR K H θ d1 x ∧ slD d1 lo hi = some d ∧ After K T θ H μ d Q
theorem cut_rel {K : PySem.W.Frag} {H : Hp} {θ : Th} {ds : List D} {vs : List V} (r : VRs K H θ ds vs) (lo hi : Option Int) : VRs K H θ (cutD ds lo hi) (cutV vs lo hi) := by
  unfold cutD cutV
  rw [← r.length]
  exact (r.drop _).take _
theorem sl_ok : SlR X (rSl X.K T) := by
  intro pins s σ H x v vl vu lo hi sl Q I rx hs pl pu h
  obtain ⟨θ, μ, d1, d, sr, r1, e, af⟩ := h
  cases d1 with
  | list xs =>
    cases e
    obtain ⟨a, vs, rfl, ha, na, rs⟩ := r1.lstOf
    exact sl_list pins s σ H _ v vl vu lo hi sl Q I rx hs pl pu ⟨a, vs, rfl, SqL.of ha, fun p hp => af.newL sr (cut_rel rs lo hi) hp⟩
  | tuple xs =>
    cases e
    obtain ⟨a, vs, rfl, ha, rs⟩ := r1.tupOf
    refine sl_tupA pins s σ H _ v vl vu lo hi sl Q I rx hs pl pu ⟨a, vs, rfl, ha, fun z => ?_, fun _ p hp => af.newT sr (cut_rel rs lo hi) hp⟩
    have e : cutD xs lo hi = xs := by
      unfold cutD
      rw [rs.length, z.1, z.2, ← rs.length]
      simp
    rw [e] at af
    exact af.here sr r1
  | _ => cases e

/-! ### built-ins -/
theorem ints_rel {K : PySem.W.Frag} {H : Hp} {θ : Th} : ∀ {ds : List D} {vs : List V} {ns : List Int}, VRs K H θ ds vs → intsOf ds = some ns → vs = ns.map V.int
  | _, _, _, .nil, e => by cases e; rfl
  | .int i :: ds, _, ns, .cons r t, e => by
    cases r
    have e : (intsOf ds).map (fun ns => i :: ns) = some ns := e
    cases q : intsOf ds with
    | none => rw [q] at e; cases e
    | some ms =>
      rw [q] at e
      cases e
      rw [ints_rel t q]
      rfl
  | .none :: _, _, _, .cons r t, e => by cases e
  | .bool _ :: _, _, _, .cons r t, e => by cases e
  | .str _ :: _, _, _, .cons r t, e => by cases e
  | .list _ :: _, _, _, .cons r t, e => by cases e
  | .tuple _ :: _, _, _, .cons r t, e => by cases e
  | .dict _ :: _, _, _, .cons r t, e => by cases e
theorem bols_rel {K : PySem.W.Frag} {H : Hp} {θ : Th} : ∀ {ds : List D} {vs : List V} {ns : List Bool}, VRs K H θ ds vs → bolsOf ds = some ns → vs = ns.map V.bl
  | _, _, _, .nil, e => by cases e; rfl
  | .bool i :: ds, _, ns, .cons r t, e => by
    cases r
    have e : (bolsOf ds).map (fun ns => i :: ns) = some ns := e
    cases q : bolsOf ds with
    | none => rw [q] at e; cases e
    | some ms =>
      rw [q] at e
      cases e
      rw [bols_rel t q]
      rfl
  | .none :: _, _, _, .cons r t, e => by cases e
  | .int _ :: _, _, _, .cons r t, e => by cases e
  | .str _ :: _, _, _, .cons r t, e => by cases e
  | .list _ :: _, _, _, .cons r t, e => by cases e
  | .tuple _ :: _, _, _, .cons r t, e => by cases e
  | .dict _ :: _, _, _, .cons r t, e => by cases e
theorem maxI_max : ∀ (ns : List Int), ns ≠ [] → maxI ns ∈ ns ∧ ∀ y ∈ ns, y ≤ maxI ns
  | [], h => absurd rfl h
  | [x], _ => by simp [maxI]
  | x :: y :: r, _ => by
    obtain ⟨h1, h2⟩ := maxI_max (y :: r) (by simp)
    unfold maxI
    split
    · rename_i hc
      exact ⟨List.mem_cons_of_mem _ h1, fun z hz => by
        rcases List.mem_cons.mp hz with e | e
        · rw [e]; omega
        · exact h2 z e⟩
    · rename_i hc
      exact ⟨List.mem_cons_self, fun z hz => by
        rcases List.mem_cons.mp hz with e | e
        · rw [e]; exact Int.le_refl _
        · have := h2 z e; omega⟩
def bltName : Blt → Str
  | .len => "len"
  | .abs => "abs"
  | .min2 => "min"
  | .max2 => "max"
  | .sum => "sum"
  | .int => "int"
  | .all => "all"
  | .any => "any"
  | .tuple => "tuple"
  | .max1 => "max"
  | .list => "list"
  | .str => "str"
def bltVal : Blt → Value
  | .len => .builtin "len"
  | .abs => .builtin "abs"
  | .min2 => .builtin "min"
  | .max2 => .builtin "max"
  | .sum => .builtin "sum"
  | .int => .type "int"
  | .all => .builtin "all"
  | .any => .builtin "any"
  | .tuple => .type "tuple"
  | .max1 => .builtin "max"
  | .list => .type "list"
  | .str => .type "str"
def rBlt (K : PySem.W.Frag) (T : List (Addr × Str)) (b : Blt) : List V → Hp → VK → Prop := fun vs H Q => ∃ θ μ ds d, SRel K T H θ μ ∧ VRs K H θ ds vs ∧ bltD b ds = some d ∧ After K T θ H μ d Q
theorem one_arg {K : PySem.W.Frag} {H : Hp} {θ : Th} {d : D} {vs : List V} (r : VRs K H θ [d] vs) : ∃ v, vs = [v] ∧ VR K H θ d v := by
  cases r with
  | cons r t => cases t; exact ⟨_, rfl, r⟩
theorem two_args {K : PySem.W.Frag} {H : Hp} {θ : Th} {d e : D} {vs : List V} (r : VRs K H θ [d, e] vs) : ∃ v u, vs = [v, u] ∧ VR K H θ d v ∧ VR K H θ e u := by
  cases r with
  | cons r t =>
    obtain ⟨u, rfl, q⟩ := one_arg t
    exact ⟨_, _, rfl, r, q⟩
theorem blt_ok (b : Blt) (hc : X.calm = true) : CallR X (bltVal b) (rBlt X.K T b) := by
  intro pins s σ H xs us Q I r h
  obtain ⟨θ, μ, ds, d, sr, rs, e, af⟩ := h
  cases b with
  | len =>
    unfold bltD at e
    split at e <;> try (cases e; done)
    · rename_i ys heq; cases heq; cases e
      obtain ⟨v, rfl, q⟩ := one_arg rs
      obtain ⟨a, vs, rfl, ha, na, qs⟩ := q.lstOf
      refine call_len_seq pins s σ H _ us Q I r ⟨a, vs, rfl, .inl (SqL.of ha), ?_⟩
      rw [← qs.length]
      exact af.here sr (.int _)
    · rename_i ys heq; cases heq; cases e
      obtain ⟨v, rfl, q⟩ := one_arg rs
      obtain ⟨a, vs, rfl, ha, qs⟩ := q.tupOf
      refine call_len_seq pins s σ H _ us Q I r ⟨a, vs, rfl, .inr ha, ?_⟩
      rw [← qs.length]
      exact af.here sr (.int _)
    · rename_i x heq; cases heq
      split at e
      · rename_i hc
        cases e
        obtain ⟨v, rfl, q⟩ := one_arg rs
        cases q
        exact call_len_str pins s σ H _ us Q I r ⟨x, rfl, line6 hc, af.here sr (.int _)⟩
      · cases e
    all_goals (rename_i heq; cases heq)
  | abs =>
    unfold bltD at e
    split at e <;> try (cases e; done)
    all_goals first | (rename_i heq; cases heq; done) | skip
    rename_i i heq; cases e
    obtain ⟨v, rfl, q⟩ := one_arg rs
    cases q
    exact call_abs pins s σ H _ us Q I r ⟨_, rfl, af.here sr (.int _)⟩
  | min2 =>
    unfold bltD at e
    split at e <;> try (cases e; done)
    all_goals first | (rename_i heq; cases heq; done) | skip
    rename_i heq; cases e
    obtain ⟨v, u, rfl, q, q'⟩ := two_args rs
    cases q; cases q'
    exact call_min2 hc pins s σ H _ us Q I r ⟨_, _, rfl, af.here sr (.int _)⟩
  | max2 =>
    unfold bltD at e
    split at e <;> try (cases e; done)
    all_goals first | (rename_i heq; cases heq; done) | skip
    rename_i heq; cases e
    obtain ⟨v, u, rfl, q, q'⟩ := two_args rs
    cases q; cases q'
    exact call_max2 hc pins s σ H _ us Q I r ⟨_, _, rfl, af.here sr (.int _)⟩
  | sum =>
    unfold bltD at e
    split at e <;> try (cases e; done)
    all_goals first | (rename_i heq; cases heq; done) | skip
    rename_i ys heq
    cases q : intsOf ys with
    | none => rw [q] at e; cases e
    | some ns =>
      rw [q] at e
      cases e
      obtain ⟨v, rfl, qv⟩ := one_arg rs
      obtain ⟨a, vs, rfl, ha, na, qs⟩ := qv.lstOf
      exact cr_sum hc pins s σ H _ us Q I r ⟨a, ns, rfl, by rw [← ints_rel qs q]; exact SqL.of ha, af.here sr (.int _)⟩
  | int =>
    unfold bltD at e
    split at e <;> try (cases e; done)
    all_goals first | (rename_i heq; cases heq; done) | skip
    · cases e
      obtain ⟨v, rfl, q⟩ := one_arg rs
      cases q
      exact call_int1 pins s σ H _ us Q I r (.inl ⟨_, rfl, af.here sr (.int _)⟩)
    · cases e
      obtain ⟨v, rfl, q⟩ := one_arg rs
      cases q
      exact call_int1 pins s σ H _ us Q I r (.inr ⟨_, rfl, af.here sr (.int _)⟩)
  | all =>
    unfold bltD at e
    split at e <;> try (cases e; done)
    all_goals first | (rename_i heq; cases heq; done) | skip
    rename_i ys heq
    cases q : bolsOf ys with
    | none => rw [q] at e; cases e
    | some ns =>
      rw [q] at e
      cases e
      obtain ⟨v, rfl, qv⟩ := one_arg rs
      obtain ⟨a, vs, rfl, ha, na, qs⟩ := qv.lstOf
      exact cr_all hc pins s σ H _ us Q I r ⟨a, ns, rfl, by rw [← bols_rel qs q]; exact SqL.of ha, af.here sr (.bl _)⟩
  | any =>
    unfold bltD at e
    split at e <;> try (cases e; done)
    all_goals first | (rename_i heq; cases heq; done) | skip
    rename_i ys heq
    cases q : bolsOf ys with
    | none => rw [q] at e; cases e
    | some ns =>
      rw [q] at e
      cases e
      obtain ⟨v, rfl, qv⟩ := one_arg rs
      obtain ⟨a, vs, rfl, ha, na, qs⟩ := qv.lstOf
      exact cr_any hc pins s σ H _ us Q I r ⟨a, ns, rfl, by rw [← bols_rel qs q]; exact SqL.of ha, af.here sr (.bl _)⟩
  | tuple =>
    unfold bltD at e
    split at e <;> try (cases e; done)
    all_goals first | (rename_i heq; cases heq; done) | skip
    · cases e
      obtain ⟨v, rfl, qv⟩ := one_arg rs
      obtain ⟨a, vs, rfl, ha, na, qs⟩ := qv.lstOf
      exact call_tuple_of pins s σ H _ us Q I r ⟨a, vs, rfl, .inl ⟨SqL.of ha, fun l hl => af.newT sr qs hl⟩⟩
    · cases e
      obtain ⟨v, rfl, qv⟩ := one_arg rs
      obtain ⟨a, vs, rfl, ha, qs⟩ := qv.tupOf
      exact call_tuple_of pins s σ H _ us Q I r ⟨a, vs, rfl, .inr ⟨ha, af.here sr qv⟩⟩
  | max1 =>
    unfold bltD at e
    split at e <;> try (cases e; done)
    all_goals first | (rename_i heq; cases heq; done) | skip
    rename_i ys heq
    cases q : intsOf ys with
    | none => rw [q] at e; cases e
    | some ns =>
      rw [q] at e
      have e : (if ns = [] then none else some (PyData.int (maxI ns))) = some d := e
      split at e
      · cases e
      · rename_i hn
        cases e
        obtain ⟨v, rfl, qv⟩ := one_arg rs
        obtain ⟨a, vs, rfl, ha, na, qs⟩ := qv.lstOf
        refine cr_max hc pins s σ H _ us Q I r ⟨a, ns, rfl, by rw [← ints_rel qs q]; exact SqL.of ha, ?_, fun m hm hy => ?_⟩
        · cases ns with
          | nil => exact absurd rfl hn
          | cons _ _ => exact Nat.succ_pos _
        · obtain ⟨h1, h2⟩ := maxI_max ns hn
          have e1 : m = maxI ns := Int.le_antisymm (h2 m hm) (hy _ h1)
          rw [e1]
          exact af.here sr (.int _)
  | list =>
    unfold bltD at e
    split at e <;> try (cases e; done)
    all_goals first | (rename_i heq; cases heq; done) | skip
    · cases e
      obtain ⟨v, rfl, qv⟩ := one_arg rs
      obtain ⟨a, vs, rfl, ha, na, qs⟩ := qv.lstOf
      exact call_list_of pins s σ H _ us Q I r ⟨a, vs, rfl, .inl (SqL.of ha), fun l hl => af.newL sr qs hl⟩
    · cases e
      obtain ⟨v, rfl, qv⟩ := one_arg rs
      obtain ⟨a, vs, rfl, ha, qs⟩ := qv.tupOf
      exact call_list_of pins s σ H _ us Q I r ⟨a, vs, rfl, .inr ha, fun l hl => af.newL sr qs hl⟩
  | str =>
    unfold bltD at e
    split at e <;> try (cases e; done)
    all_goals first | (rename_i heq; cases heq; done) | skip
    rename_i i heq
    split at e
    · rename_i hc
      cases e
      obtain ⟨v, rfl, q⟩ := one_arg rs
      cases q
      exact call_str_int pins s σ H _ us Q I r ⟨i, rfl, hc, af.here sr (.str _)⟩
    · cases e
/-! ### isinstance -/
def tyName : Ty → String
  | .int => "int"
  | .bool => "bool"
  | .str => "str"
  | .tuple => "tuple"
  | .list => "list"
def rIsi1 (K : PySem.W.Frag) (T : List (Addr × Str)) (t : Ty) : List V → Hp → VK → Prop := fun vs H Q => ∃ θ μ d v, SRel K T H θ μ ∧ vs = [v, .ty (tyName t)] ∧ VR K H θ d v ∧ Q (.bl (isTy d t)) H
theorem isi_ok (t : Ty) : CallR X (.builtin "isinstance") (rIsi1 X.K T t) := by
  intro pins s σ H xs us Q I r h
  obtain ⟨θ, μ, d, v, sr, rfl, rv, q⟩ := h
  have fin : ∀ (a : String) , TyX X.K H v (.type a) → kitB a (tyName t) = some (isTy d t) → wpAny (model X.prog X.w) X.A (PySem.call (.builtin "isinstance") us) (EP X pins σ Q) X.xe s :=
    fun a ty e => call_isi pins s σ H _ us Q I r ⟨v, .ty (tyName t), .type a, .type (tyName t), isTy d t, rfl, .ty _, ty, kit_ty e, q⟩
  cases rv with
  | non => exact fin "NoneType" (.base .non) (by cases t <;> first | (show _ = some true; decide +kernel) | (show _ = some false; decide +kernel))
  | bl b => exact fin "bool" (.base (.bl b)) (by cases t <;> first | (show _ = some true; decide +kernel) | (show _ = some false; decide +kernel))
  | int i => exact fin "int" (.base (.int i)) (by cases t <;> first | (show _ = some true; decide +kernel) | (show _ = some false; decide +kernel))
  | str x => exact fin "str" (.base (.str x)) (by cases t <;> first | (show _ = some true; decide +kernel) | (show _ = some false; decide +kernel))
  | lst e n ts => exact fin "list" (.base (.lst e)) (by cases t <;> first | (show _ = some true; decide +kernel) | (show _ = some false; decide +kernel))
  | tup e n ts => exact fin "tuple" (.base (.tup e)) (by cases t <;> first | (show _ = some true; decide +kernel) | (show _ = some false; decide +kernel))
  | tupK e ts =>
    rcases e with e | ⟨o, its, n, hk, hcl, _⟩
    · rcases e with e | ⟨o, e⟩ <;> cases e
    · exact fin "tuple" (.kTuple hk hcl) (by cases t <;> first | (show _ = some true; decide +kernel) | (show _ = some false; decide +kernel))
end
end Mp

set_option maxRecDepth 100000
set_option maxHeartbeats 2000000
/-! Mp3: expressions. -/
namespace Mp
open PySem L2
section
variable (K : PySem.W.Frag) (T : List (Addr × Str)) (Ce : Nat → Addr) (G : Nat → Option D) (call : Nat → List Val → M D) (W : WX)
/-- the reading of a run -/
def RM {α β : Type} (rel : Hp → Th → α → β → Prop) (m : En → M α) : St → Hp → (β → Hp → Prop) → Prop := fun σ H Q => ∃ en μ θ, ERel K H θ en σ ∧ SRel K T H θ μ ∧ Wp K T Ce rel W σ θ H (m en μ) Q
def RE (me : ME) : TE := RM K T Ce W (VR K) (ev G call me)
def relB (_ : Hp) (_ : Th) (b c : Bool) : Prop := b = c
def relO (_ : Hp) (_ : Th) (b c : Option Int) : Prop := b = c
def RT (me : ME) : TT := RM K T Ce W relB (fun en => (ev G call me en).bind fun x => M.of (boolOf x))
def RAs (es : MEs) : TA := RM K T Ce W (VRs K) (evs G call es)
def RAv (es : MEs) : TA := RM K T Ce W (VRvs K) (evv G call es)
def RO (o : MO) : TO := RM K T Ce W relO (evo G call o)
end
section
variable {X : Cx} {T : List (Addr × Str)} {Ce : Nat → Addr} {G : Nat → Option D} {call : Nat → List Val → M D} {W : WX}
/-- the step of a run into a reading -/
theorem RM.bind {α β γ δ : Type} {K : PySem.W.Frag} {rel : Hp → Th → α → β → Prop} {rel2 : Hp → Th → γ → δ → Prop} {m : En → M α} {k : En → α → M γ} {σ : St} {H : Hp} {Q : δ → Hp → Prop} {en : En} {μ : Store} {θ : Th}
    (er : ERel K H θ en σ) (sr : SRel K T H θ μ) (h : Wp K T Ce rel2 W σ θ H (M.bind (m en) (k en) μ) Q) {R : β → Hp → Prop}
    (hk : ∀ x H1 θ1 d μ1, ERel K H1 θ1 en σ → Step θ H θ1 H1 → SRel K T H1 θ1 μ1 → rel H1 θ1 d x → Wp K T Ce rel2 W σ θ1 H1 (k en d μ1) Q → R x H1) : RM K T Ce W rel m σ H R :=
  ⟨en, μ, θ, er, sr, (Wp.bind h).mono fun x H1 ⟨θ1, d, μ1, st, sr1, rl, h1⟩ => hk x H1 θ1 d μ1 (er.step st) st sr1 rl h1⟩
theorem pe_varD {i : Nat} {x : Str} {pos : Pos} (hN : X.N[i]? = some x) (hv : Vis X.env.scope x) (hd : (x == ("__debug__" : Str)) = false) (hcd : (x == ("__classdict__" : Str)) = false) : PE X (.Name x pos) ((RE X.K T Ce G call W) (.var i)) := by
  refine PE.imp (pe_var hN hv hd hcd) fun σ H Q ⟨en, μ, θ, er, sr, h⟩ => ?_
  obtain ⟨d, e, h⟩ := Wp.of (rel := VR X.K) (show Wp X.K T Ce (VR X.K) W σ θ H (M.of (lookD en i) μ) Q from h) sr
  unfold lookD at e
  split at e
  · rename_i y q
    cases e
    obtain ⟨v, e1, r⟩ := er.at_ i _ q
    exact ⟨v, e1, h θ H v .refl sr r⟩
  · cases e
theorem pe_cstD {e : Expr} {d : D} {v : V} (h : PE X e (tC v)) (r : ∀ K H θ, VR K H θ d v) : PE X e ((RE X.K T Ce G call W) (.cst d)) :=
  PE.imp h fun σ H Q ⟨en, μ, θ, er, sr, h⟩ => h θ H v .refl sr (r _ _ _)
theorem pe_glbD {g : Nat} {x : Str} {v : V} {u : Value} {pos : Pos} (hg : Gl X x) (hm : X.mg x = some u) (r : RelV v u) (hd : (x == ("__debug__" : Str)) = false) (hr : ∀ d, G g = some d → ∀ H θ, VR X.K H θ d v) : PE X (.Name x pos) ((RE X.K T Ce G call W) (.glb g)) :=
  PE.imp (pe_glob hg hm r hd) fun σ H Q ⟨en, μ, θ, er, sr, h⟩ => by
    obtain ⟨d, e, h⟩ := Wp.of (rel := VR X.K) (show Wp X.K T Ce (VR X.K) W σ θ H (M.of (G g) μ) Q from h) sr
    exact h θ H v .refl sr (hr d e _ _)
theorem pe_binD {op : BOp} {a b : ME} {l r : Expr} {pos : Pos} (ha : PE X l ((RE X.K T Ce G call W) a)) (hb : PE X r ((RE X.K T Ce G call W) b)) : PE X (.BinOp l (opOf op) r pos) ((RE X.K T Ce G call W) (.bin op a b)) := by
  refine PE.imp (pe_op (bop_ok (T := T) op) ha hb) fun σ H Q ⟨en, μ, θ, er, sr, h⟩ => ?_
  refine RM.bind (m := ev G call a) (k := fun en x => (ev G call b en).bind fun y => M.of (bop op x y)) er sr h fun x H1 θ1 d1 μ1 er1 st1 sr1 r1 h1 => ?_
  refine RM.bind (m := ev G call b) (k := fun en y => M.of (bop op d1 y)) er1 sr1 h1 fun y H2 θ2 d2 μ2 er2 st2 sr2 r2 h2 => ?_
  obtain ⟨d, e, h3⟩ := Wp.of h2 sr2
  exact ⟨θ2, μ2, d1, d2, d, sr2, r1.step st2, r2, e, h3⟩
theorem pe_negD {a : ME} {l : Expr} {pos : Pos} (ha : PE X l ((RE X.K T Ce G call W) a)) : PE X (.UnaryOp .USub l pos) ((RE X.K T Ce G call W) (.neg a)) := by
  refine PE.imp (pe_un un_neg ha) fun σ H Q ⟨en, μ, θ, er, sr, h⟩ => ?_
  refine RM.bind (m := ev G call a) (k := fun en x => M.of ((intOf x).map fun i => PyData.int (-i))) er sr h fun x H1 θ1 d1 μ1 er1 st1 sr1 r1 h1 => ?_
  obtain ⟨d, e, h3⟩ := Wp.of h1 sr1
  cases r1 with
  | int i => cases e; exact ⟨i, rfl, h3 θ1 H1 _ .refl sr1 (.int _)⟩
  | _ => cases e
theorem pe_cmpD {op : COp} {a b : ME} {l r : Expr} {pos : Pos} (hu : X.A.units + 65 < cLine) (hm : behindInMarks (copOf op) r = false) (ha : PE X l ((RE X.K T Ce G call W) a)) (hb : PE X r ((RE X.K T Ce G call W) b)) : PE X (.Compare l [copOf op] [r] pos) ((RE X.K T Ce G call W) (.cmp op a b)) := by
  refine PE.imp (pe_cmpR (cop_ok (T := T) op hu) ha hb hm) fun σ H Q ⟨en, μ, θ, er, sr, h⟩ => ?_
  refine RM.bind (m := ev G call a) (k := fun en x => (ev G call b en).bind fun y => M.of ((cop op x y).map PyData.bool)) er sr h fun x H1 θ1 d1 μ1 er1 st1 sr1 r1 h1 => ?_
  refine RM.bind (m := ev G call b) (k := fun en y => M.of ((cop op d1 y).map PyData.bool)) er1 sr1 h1 fun y H2 θ2 d2 μ2 er2 st2 sr2 r2 h2 => ?_
  obtain ⟨d, e, h3⟩ := Wp.of h2 sr2
  cases q : cop op d1 d2 with
  | none => rw [q] at e; cases e
  | some c =>
    rw [q] at e
    cases e
    exact ⟨θ2, μ2, d1, d2, c, sr2, r1.step st2, r2, q, h3 θ2 H2 _ .refl sr2 (.bl _)⟩
theorem RT.of {me : ME} {σ : St} {H : Hp} {Q : Bool → Hp → Prop} {K : PySem.W.Frag} (h : RT K T Ce G call W me σ H Q) : RE K T Ce G call W me σ H (fun v H1 => ∃ c, v = .bl c ∧ Q c H1) := by
  obtain ⟨en, μ, θ, er, sr, h⟩ := h
  refine RM.bind (m := ev G call me) (k := fun en x => M.of (boolOf x)) er sr h fun x H1 θ1 d1 μ1 er1 st1 sr1 r1 h1 => ?_
  obtain ⟨d, e, h3⟩ := Wp.of h1 sr1
  cases r1 with
  | bl b => cases e; exact ⟨_, rfl, h3 θ1 H1 _ .refl sr1 rfl⟩
  | _ => cases e
/-- a test whose expression is no connective -/
theorem pt_valD {e : Expr} {me : ME} (h : PE X e ((RE X.K T Ce G call W) me)) (he : ∀ whole, isTrue e X.env whole = (do let v ← whole; standAt e.pos; holding [v] (truthy v))) : PT X e ((RT X.K T Ce G call W) me) :=
  PT.imp (pt_val h he) fun σ H Q q => q.of
theorem pt_cmpD {op : COp} {a b : ME} {l r : Expr} {pos : Pos} (hu : X.A.units + 65 < cLine) (hm : behindInMarks (copOf op) r = false) (ha : PE X l ((RE X.K T Ce G call W) a)) (hb : PE X r ((RE X.K T Ce G call W) b)) : PT X (.Compare l [copOf op] [r] pos) ((RT X.K T Ce G call W) (.cmp op a b)) := by
  refine PT.imp (pt_cmpR (cop_ok (T := T) op hu) ha hb hm) fun σ H Q q => ?_
  obtain ⟨en, μ, θ, er, sr, h⟩ := q.of
  refine RM.bind (m := ev G call a) (k := fun en x => (ev G call b en).bind fun y => M.of ((cop op x y).map PyData.bool)) er sr h fun x H1 θ1 d1 μ1 er1 st1 sr1 r1 h1 => ?_
  refine RM.bind (m := ev G call b) (k := fun en y => M.of ((cop op d1 y).map PyData.bool)) er1 sr1 h1 fun y H2 θ2 d2 μ2 er2 st2 sr2 r2 h2 => ?_
  obtain ⟨d, e, h3⟩ := Wp.of h2 sr2
  cases q : cop op d1 d2 with
  | none => rw [q] at e; cases e
  | some c =>
    rw [q] at e
    cases e
    exact ⟨θ2, μ2, d1, d2, c, sr2, r1.step st2, r2, q, h3 θ2 H2 _ .refl sr2 (.bl _)⟩
theorem chainRd {o1 o2 : COp} {a b c : ME} {σ : St} {H : Hp} {Q : VK} {K : PySem.W.Frag} (h : RE K T Ce G call W (.chain o1 o2 a b c) σ H Q) :
    tChain (rCop K T o1) (rCop K T o2) (RE K T Ce G call W a) (RE K T Ce G call W b) (RE K T Ce G call W c) σ H Q := by
  obtain ⟨en, μ, θ, er, sr, h⟩ := h
  refine RM.bind (m := ev G call a) (k := fun en x => (ev G call b en).bind fun y => (M.of (cop o1 x y)).bind fun k => match k with
    | true => (ev G call c en).bind fun z => M.of ((cop o2 y z).map PyData.bool)
    | false => M.pure (PyData.bool false)) er sr h fun x H1 θ1 d1 μ1 er1 st1 sr1 r1 h1 => ?_
  refine RM.bind (m := ev G call b) (k := fun en y => (M.of (cop o1 d1 y)).bind fun k => match k with
    | true => (ev G call c en).bind fun z => M.of ((cop o2 y z).map PyData.bool)
    | false => M.pure (PyData.bool false)) er1 sr1 h1 fun y H2 θ2 d2 μ2 er2 st2 sr2 r2 h2 => ?_
  obtain ⟨k, ek, h3⟩ := Wp.ofB h2
  refine ⟨θ2, μ2, d1, d2, k, sr2, r1.step st2, r2, ek, k, rfl, ?_⟩
  cases k with
  | false => exact h3 θ2 H2 _ .refl sr2 (.bl _)
  | true =>
    show RE K T Ce G call W c σ H2 _
    refine RM.bind (m := ev G call c) (k := fun en z => M.of ((cop o2 d2 z).map PyData.bool)) er2 sr2 h3 fun z H3 θ3 d3 μ3 er3 st3 sr3 r3 h4 => ?_
    obtain ⟨d, e, h5⟩ := Wp.of h4 sr3
    cases q : cop o2 d2 d3 with
    | none => rw [q] at e; cases e
    | some c =>
      rw [q] at e
      cases e
      exact ⟨θ3, μ3, d2, d3, c, sr3, r2.step st3, r3, q, h5 θ3 H3 _ .refl sr3 (.bl _)⟩
theorem pe_andD {a b : ME} {x y : Expr} {rest : List Expr} {pos : Pos} (ha : PE X x ((RE X.K T Ce G call W) a)) (hb : PE X (.BoolOp .And (y :: rest) pos) ((RE X.K T Ce G call W) b)) : PE X (.BoolOp .And (x :: y :: rest) pos) ((RE X.K T Ce G call W) (.and a b)) := by
  refine PE.imp (pe_and ha hb) fun σ H Q ⟨en, μ, θ, er, sr, h⟩ => ?_
  refine RM.bind (m := ev G call a) (k := fun en x => (M.of (boolOf x)).bind fun k => match k with
    | true => ev G call b en
    | false => M.pure (PyData.bool false)) er sr h fun x H1 θ1 d1 μ1 er1 st1 sr1 r1 h1 => ?_
  obtain ⟨k, ek, h3⟩ := Wp.ofB h1
  cases r1 with
  | bl c =>
    cases ek
    refine ⟨_, rfl, ?_⟩
    cases k with
    | true => exact ⟨en, μ1, θ1, er1, sr1, h3⟩
    | false => exact h3 θ1 H1 _ .refl sr1 (.bl _)
  | _ => cases ek
theorem pe_orD {a b : ME} {x y : Expr} {rest : List Expr} {pos : Pos} (ha : PE X x ((RE X.K T Ce G call W) a)) (hb : PE X (.BoolOp .Or (y :: rest) pos) ((RE X.K T Ce G call W) b)) : PE X (.BoolOp .Or (x :: y :: rest) pos) ((RE X.K T Ce G call W) (.or a b)) := by
  refine PE.imp (pe_or ha hb) fun σ H Q ⟨en, μ, θ, er, sr, h⟩ => ?_
  refine RM.bind (m := ev G call a) (k := fun en x => (M.of (boolOf x)).bind fun k => match k with
    | true => M.pure (PyData.bool true)
    | false => ev G call b en) er sr h fun x H1 θ1 d1 μ1 er1 st1 sr1 r1 h1 => ?_
  obtain ⟨k, ek, h3⟩ := Wp.ofB h1
  cases r1 with
  | bl c =>
    cases ek
    refine ⟨_, rfl, ?_⟩
    cases k with
    | false => exact ⟨en, μ1, θ1, er1, sr1, h3⟩
    | true => exact h3 θ1 H1 _ .refl sr1 (.bl _)
  | _ => cases ek
/-- a connective's value as a test: its first part's test -/
theorem RT.head {a : ME} {σ : St} {H : Hp} {K : PySem.W.Frag} {Q : Bool → Hp → Prop} {en : En} {μ : Store} {θ : Th} {k : En → Bool → M D} {R : Bool → Hp → Prop} (er : ERel K H θ en σ) (sr : SRel K T H θ μ)
    (h : Wp K T Ce relB W σ θ H (M.bind (M.bind (ev G call a en) fun x => (M.of (boolOf x)).bind fun c => k en c) (fun x => M.of (boolOf x)) μ) Q)
    (hk : ∀ c H1 θ1 μ1, ERel K H1 θ1 en σ → SRel K T H1 θ1 μ1 → Wp K T Ce relB W σ θ1 H1 (M.bind (k en c) (fun x => M.of (boolOf x)) μ1) Q → R c H1) : RT K T Ce G call W a σ H R := by
  have assoc : ∀ {α β γ : Type} (m : M α) (f : α → M β) (g : β → M γ), M.bind (M.bind m f) g = M.bind m fun x => M.bind (f x) g := by
    intro α β γ m f g
    funext μ
    unfold M.bind
    cases m μ with
    | none => rfl
    | some r => cases r <;> rfl
  rw [assoc] at h
  refine ⟨en, μ, θ, er, sr, ?_⟩
  have h' : Wp K T Ce relB W σ θ H (M.bind (M.bind (ev G call a en) fun x => M.of (boolOf x)) (fun c => M.bind (k en c) fun x => M.of (boolOf x)) μ) Q := by
    rw [assoc]
    have e : (fun x => M.bind (M.of (boolOf x)) fun c => M.bind (k en c) fun x => M.of (boolOf x)) = (fun x => M.bind (M.bind (M.of (boolOf x)) fun c => k en c) fun x => M.of (boolOf x)) := by
      funext x
      rw [assoc]
    rw [e]
    exact h
  exact (Wp.bind (rel := relB) h').mono fun c H1 ⟨θ1, d, μ1, st, sr1, rl, h1⟩ => by
    obtain rfl : d = c := rl
    exact hk d H1 θ1 μ1 (er.step st) sr1 h1
theorem pw_andD {a b : ME} {x y : Expr} {rest : List Expr} {pos : Pos} (ha : PT X x ((RT X.K T Ce G call W) a)) (hb : PW X (.BoolOp .And (y :: rest) pos) ((RT X.K T Ce G call W) b)) : PW X (.BoolOp .And (x :: y :: rest) pos) ((RT X.K T Ce G call W) (.and a b)) := by
  refine PW.imp (pw_and ha hb) fun σ H Q ⟨en, μ, θ, er, sr, h⟩ => ?_
  refine RT.head (a := a) (k := fun en k => match k with
    | true => ev G call b en
    | false => M.pure (PyData.bool false)) er sr h fun c H1 θ1 μ1 er1 sr1 h1 => ?_
  cases c with
  | true => exact ⟨en, μ1, θ1, er1, sr1, h1⟩
  | false => exact h1 θ1 H1 _ .refl sr1 rfl
theorem pw_orD {a b : ME} {x y : Expr} {rest : List Expr} {pos : Pos} (ha : PT X x ((RT X.K T Ce G call W) a)) (hb : PW X (.BoolOp .Or (y :: rest) pos) ((RT X.K T Ce G call W) b)) : PW X (.BoolOp .Or (x :: y :: rest) pos) ((RT X.K T Ce G call W) (.or a b)) := by
  refine PW.imp (pw_or ha hb) fun σ H Q ⟨en, μ, θ, er, sr, h⟩ => ?_
  refine RT.head (a := a) (k := fun en k => match k with
    | true => M.pure (PyData.bool true)
    | false => ev G call b en) er sr h fun c H1 θ1 μ1 er1 sr1 h1 => ?_
  cases c with
  | false => exact ⟨en, μ1, θ1, er1, sr1, h1⟩
  | true => exact h1 θ1 H1 _ .refl sr1 rfl
theorem pe_notD {a : ME} {x : Expr} {pos : Pos} (ha : PE X x ((RE X.K T Ce G call W) a)) : PE X (.UnaryOp .Not x pos) ((RE X.K T Ce G call W) (.not a)) := by
  refine PE.imp (pe_not ha) fun σ H Q ⟨en, μ, θ, er, sr, h⟩ => ?_
  refine RM.bind (m := ev G call a) (k := fun en x => M.of ((boolOf x).map fun b => PyData.bool (!b))) er sr h fun x H1 θ1 d1 μ1 er1 st1 sr1 r1 h1 => ?_
  obtain ⟨d, e, h3⟩ := Wp.of h1 sr1
  cases r1 with
  | bl b => cases e; exact ⟨b, rfl, h3 θ1 H1 _ .refl sr1 (.bl _)⟩
  | _ => cases e
theorem pt_notD {a : ME} {x : Expr} {pos : Pos} (ha : PT X x ((RT X.K T Ce G call W) a)) : PT X (.UnaryOp .Not x pos) ((RT X.K T Ce G call W) (.not a)) := by
  refine PT.imp (pt_not ha) fun σ H Q ⟨en, μ, θ, er, sr, h⟩ => ?_
  have e : (fun x : D => M.of ((boolOf x).map fun b => PyData.bool (!b))) = fun x => (M.of (boolOf x)).bind fun c => M.pure (PyData.bool (!c)) := by
    funext x μ
    cases boolOf x <;> rfl
  have h : Wp X.K T Ce relB W σ θ H (M.bind (M.bind (ev G call a en) fun x => M.of ((boolOf x).map fun b => PyData.bool (!b))) (fun x => M.of (boolOf x)) μ) Q := h
  rw [e] at h
  refine RT.head (a := a) (k := fun en c => M.pure (PyData.bool (!c))) er sr h fun c H1 θ1 μ1 er1 sr1 h1 => ?_
  exact h1 θ1 H1 _ .refl sr1 rfl
theorem pe_iteD {c a b : ME} {t x y : Expr} {pos : Pos} (hc : PT X t ((RT X.K T Ce G call W) c)) (ha : PE X x ((RE X.K T Ce G call W) a)) (hb : PE X y ((RE X.K T Ce G call W) b)) : PE X (.IfExp t x y pos) ((RE X.K T Ce G call W) (.ite c a b)) := by
  refine PE.imp (pe_ifExp hc ha hb) fun σ H Q ⟨en, μ, θ, er, sr, h⟩ => ?_
  have assoc : M.bind (M.bind (ev G call c en) fun x => M.of (boolOf x)) (fun k => match k with
    | true => ev G call a en
    | false => ev G call b en) μ = ev G call (.ite c a b) en μ := by
    show _ = M.bind (ev G call c en) (fun x => (M.of (boolOf x)).bind fun k => match k with
      | true => ev G call a en
      | false => ev G call b en) μ
    unfold M.bind
    cases ev G call c en μ with
    | none => rfl
    | some r => cases r <;> rfl
  rw [← assoc] at h
  refine RM.bind (rel := relB) (m := fun en => (ev G call c en).bind fun x => M.of (boolOf x)) (k := fun en k => match k with
    | true => ev G call a en
    | false => ev G call b en) er sr h fun d H1 θ1 d1 μ1 er1 st1 sr1 r1 h1 => ?_
  obtain rfl : d1 = d := r1
  cases d1 with
  | true => exact ⟨en, μ1, θ1, er1, sr1, h1⟩
  | false => exact ⟨en, μ1, θ1, er1, sr1, h1⟩

/-! ### lists of expressions -/
def notStar : Expr → Bool
  | .Starred .. => false
  | _ => true
theorem star_cons {e : Expr} {es : List Expr} {env : Env} (h : notStar e = true) : starEach (e :: es) env = (false, eval e env) :: starEach es env := by
  cases e <;> first | rfl | cases h
theorem star_none {pos : Pos} {env : Env} : ∀ {es : List Expr}, es.all notStar = true → (backTo pos (starEach es env)).any (·.1) = false
  | [], _ => rfl
  | e :: es, h => by
    rw [List.all_cons, Bool.and_eq_true] at h
    rw [star_cons h.1]
    have := star_none (pos := pos) (env := env) h.2
    unfold backTo at this ⊢
    rw [List.map_cons, List.any_cons, this]
    rfl
theorem pa_nilD : PA X [] (RAs X.K T Ce G call W .nil) := PA.imp pa_nil fun σ H Q ⟨en, μ, θ, er, sr, h⟩ => h θ H [] .refl sr .nil
theorem pa_consD {me : ME} {mes : MEs} {e : Expr} {es : List Expr} (he : PE X e ((RE X.K T Ce G call W) me)) (hes : PA X es (RAs X.K T Ce G call W mes)) (hs : notStar e = true) : PA X (e :: es) (RAs X.K T Ce G call W (.cons me mes)) := by
  refine PA.imp (pa_cons he hes (star_cons hs)) fun σ H Q ⟨en, μ, θ, er, sr, h⟩ => ?_
  refine RM.bind (m := ev G call me) (k := fun en x => (evs G call mes en).bind fun xs => M.pure (x :: xs)) er sr h fun x H1 θ1 d1 μ1 er1 st1 sr1 r1 h1 => ?_
  refine RM.bind (m := evs G call mes) (rel := VRs X.K) (k := fun en xs => M.pure (d1 :: xs)) er1 sr1 h1 fun y H2 θ2 d2 μ2 er2 st2 sr2 r2 h2 => ?_
  exact h2 θ2 H2 _ .refl sr2 (.cons (r1.step st2) r2)
theorem pv_nilD : PA X [] (RAv X.K T Ce G call W .nil) := PA.imp pa_nil fun σ H Q ⟨en, μ, θ, er, sr, h⟩ => h θ H [] .refl sr .nil
def isCv : ME → Bool
  | .cv _ => true
  | .nl => true
  | _ => false
theorem evv_cons {me : ME} {mes : MEs} {en : En} (h : isCv me = false) : evv G call (.cons me mes) en = (ev G call me en).bind fun x => (evv G call mes en).bind fun xs => M.pure (Val.d x :: xs) := by
  cases me <;> first | rfl | cases h
theorem pv_consD {me : ME} {mes : MEs} {e : Expr} {es : List Expr} (hc : isCv me = false) (he : PE X e ((RE X.K T Ce G call W) me)) (hes : PA X es (RAv X.K T Ce G call W mes)) (hs : notStar e = true) : PA X (e :: es) (RAv X.K T Ce G call W (.cons me mes)) := by
  refine PA.imp (pa_cons he hes (star_cons hs)) fun σ H Q ⟨en, μ, θ, er, sr, h⟩ => ?_
  rw [evv_cons hc] at h
  refine RM.bind (m := ev G call me) (k := fun en x => (evv G call mes en).bind fun xs => M.pure (Val.d x :: xs)) er sr h fun x H1 θ1 d1 μ1 er1 st1 sr1 r1 h1 => ?_
  refine RM.bind (m := evv G call mes) (rel := VRvs X.K) (k := fun en xs => M.pure (Val.d d1 :: xs)) er1 sr1 h1 fun y H2 θ2 d2 μ2 er2 st2 sr2 r2 h2 => ?_
  exact h2 θ2 H2 _ .refl sr2 (.cons (d := .d d1) (r1.step st2) r2)
theorem cell_here {K : PySem.W.Frag} {H : Hp} {θ : Th} {en : En} {σ : St} {i k : Nat} (er : ERel K H θ en σ) (h : lookC en i = some k) : ∃ v, σ[i]? = some (some v) ∧ VRv K H θ (.c k) v := by
  unfold lookC at h
  split at h
  · rename_i y q
    cases h
    exact er.at_ i _ q
  · cases h
theorem cell_back {K : PySem.W.Frag} {H H2 : Hp} {θ θ2 : Th} {μ2 : Store} {k : Nat} {v : V} {ds : List D} (st : Step θ H θ2 H2) (sr : SRel K T H2 θ2 μ2) (hv : VRv K H θ (.c k) v) (hc : cellL μ2 k = some ds) : ∃ a xs, v = .ref a ∧ θ2.2[k]? = some (some (a, [])) ∧ H2 a = some (.lst xs) ∧ VRs K H2 θ2 ds xs := by
  obtain ⟨a, xs, e, ha, rs⟩ := sr.cellAt hc
  have hat : At θ2 k a := ⟨[], e⟩
  rcases hv with z | ⟨b, z, rfl⟩
  · exact (hat.alive (st.p0 k z)).elim
  · rcases st.p1 k b z with y | y
    · rw [y.inj hat]
      exact ⟨a, xs, rfl, e, ha, rs⟩
    · exact (hat.alive y).elim
theorem pv_cellD {i : Nat} {mes : MEs} {x : Str} {pos : Pos} {es : List Expr} (hN : X.N[i]? = some x) (hv : Vis X.env.scope x) (hd : (x == ("__debug__" : Str)) = false) (hcd : (x == ("__classdict__" : Str)) = false)
    (hes : PA X es (RAv X.K T Ce G call W mes)) : PA X (.Name x pos :: es) (RAv X.K T Ce G call W (.cons (.cv i) mes)) := by
  refine PA.imp (pa_cons (pe_var hN hv hd hcd) hes) fun σ H Q ⟨en, μ, θ, er, sr, h⟩ => ?_
  have h : Wp X.K T Ce (VRvs X.K) W σ θ H (M.bind (M.of (lookC en i)) (fun k => (evv G call mes en).bind fun xs => M.pure (Val.c k :: xs)) μ) Q := h
  obtain ⟨k, ek, h1⟩ := Wp.ofB h
  obtain ⟨v, e1, r⟩ := cell_here er ek
  refine ⟨v, e1, ?_⟩
  refine RM.bind (m := evv G call mes) (rel := VRvs X.K) (k := fun en xs => M.pure (Val.c k :: xs)) er sr h1 fun y H2 θ2 d2 μ2 er2 st2 sr2 r2 h2 => ?_
  exact h2 θ2 H2 _ .refl sr2 (.cons (r.step st2) r2)
theorem pv_nlD {mes : MEs} {pos : Pos} {es : List Expr} (hes : PA X es (RAv X.K T Ce G call W mes)) : PA X (.List [] pos :: es) (RAv X.K T Ce G call W (.cons .nl mes)) := by
  refine PA.imp (pa_cons (pe_lst pa_nil) hes) fun σ H Q ⟨en, μ, θ, er, sr, h⟩ => ?_
  have h : Wp X.K T Ce (VRvs X.K) W σ θ H ((evv G call mes en).bind (fun xs => M.pure (Val.c μ.length :: xs)) (μ ++ [.lst []])) Q := h
  refine ⟨by decide, fun p hp => ?_⟩
  have stc := Step.cell sr hp (.lst [])
  have src := sr.cell hp (xs := []) (ds := []) .nil
  refine RM.bind (m := evv G call mes) (rel := VRvs X.K) (k := fun en xs => M.pure (Val.c μ.length :: xs)) (er.step stc) src (h.step stc) fun y H2 θ2 d2 μ2 er2 st2 sr2 r2 h2 => ?_
  refine h2 θ2 H2 _ .refl sr2 (.cons ?_ r2)
  have e : At (θ.1, θ.2 ++ [some (p, [])]) μ.length p := ⟨[], by rw [← sr.len]; exact snoc_last⟩
  exact VRv.step (K := X.K) (x := .c μ.length) st2 (.inr ⟨p, e, rfl⟩)
theorem Wp.bindE {α β γ δ : Type} {K : PySem.W.Frag} {rel : Hp → Th → α → β → Prop} {rel2 : Hp → Th → γ → δ → Prop} {σ : St} {θ : Th} {H : Hp} {μ : Store} {m : M α} {k : α → M γ} {Q : δ → Hp → Prop} (h : Wp K T Ce rel2 W σ θ H (M.bind m k μ) Q) :
    Wp K T Ce rel W σ θ H (m μ) (fun x H1 => ∃ θ1 d μ1, m μ = some (.ok d μ1) ∧ Step θ H θ1 H1 ∧ SRel K T H1 θ1 μ1 ∧ rel H1 θ1 d x ∧ Wp K T Ce rel2 W σ θ1 H1 (k d μ1) Q) := by
  unfold M.bind at h
  cases e : m μ with
  | none => rw [e] at h; exact h
  | some r =>
    rw [e] at h
    cases r with
    | ok a μ' => exact fun θ' H' v st sr rl => ⟨θ', a, μ', rfl, st, sr, rl, h.step st⟩
    | exc c μ' => exact h
def MEs.len : MEs → Nat
  | .nil => 0
  | .cons _ es => es.len + 1
theorem evs_len : ∀ (mes : MEs) {en : En} {μ μ' : Store} {xs : List D}, evs G call mes en μ = some (.ok xs μ') → xs.length = mes.len
  | .nil, en, μ, μ', xs, h => by cases h; rfl
  | .cons e es, en, μ, μ', xs, h => by
    have h : M.bind (ev G call e en) (fun x => (evs G call es en).bind fun xs => M.pure (x :: xs)) μ = some (.ok xs μ') := h
    unfold M.bind at h
    cases q : ev G call e en μ with
    | none => rw [q] at h; cases h
    | some r =>
      rw [q] at h
      cases r with
      | exc c μ1 => cases h
      | ok a μ1 =>
        cases q2 : evs G call es en μ1 with
        | none => simp only [q2] at h; cases h
        | some r2 =>
          simp only [q2] at h
          cases r2 with
          | exc c μ2 => cases h
          | ok b μ2 =>
            cases h
            rw [List.length_cons, evs_len es q2]
            rfl
theorem pe_tupD {mes : MEs} {es : List Expr} {k : Nat} {pos : Pos} (h : PA X es (RAs X.K T Ce G call W mes)) (hl : mes.len ≤ 1000000) : PE X (.Tuple es k pos) ((RE X.K T Ce G call W) (.tup mes)) := by
  refine PE.imp (pe_tup h) fun σ H Q ⟨en, μ, θ, er, sr, h⟩ => ?_
  refine ⟨en, μ, θ, er, sr, (Wp.bindE (rel := VRs X.K) (k := fun xs => M.pure (PyData.tuple xs)) h).mono fun xs H1 ⟨θ1, d1, μ1, e, st1, sr1, r1, h1⟩ => ?_⟩
  refine ⟨by rw [← r1.length, evs_len _ e]; exact line6 hl, fun p hp => After.newT (T := T) (fun θ' H' v => h1 θ' H' v) sr1 r1 hp⟩
theorem pe_lstD {mes : MEs} {es : List Expr} {pos : Pos} (h : PA X es (RAs X.K T Ce G call W mes)) (hl : mes.len ≤ 1000000) : PE X (.List es pos) ((RE X.K T Ce G call W) (.lst mes)) := by
  refine PE.imp (pe_lst h) fun σ H Q ⟨en, μ, θ, er, sr, h⟩ => ?_
  refine ⟨en, μ, θ, er, sr, (Wp.bindE (rel := VRs X.K) (k := fun xs => M.pure (PyData.list xs)) h).mono fun xs H1 ⟨θ1, d1, μ1, e, st1, sr1, r1, h1⟩ => ?_⟩
  refine ⟨by rw [← r1.length, evs_len _ e]; exact line6 hl, fun p hp => After.newL (T := T) (fun θ' H' v => h1 θ' H' v) sr1 r1 hp⟩
theorem pe_idxD {a b : ME} {l r : Expr} {pos : Pos} (hs : PlainIx r) (ha : PE X l ((RE X.K T Ce G call W) a)) (hb : PE X r ((RE X.K T Ce G call W) b)) : PE X (.Subscript l r pos) ((RE X.K T Ce G call W) (.idx a b)) := by
  refine PE.imp (pe_ix (idx_ok (T := T)) ha hb hs) fun σ H Q ⟨en, μ, θ, er, sr, h⟩ => ?_
  refine RM.bind (m := ev G call a) (k := fun en x => (ev G call b en).bind fun y => M.of (idxD x y)) er sr h fun x H1 θ1 d1 μ1 er1 st1 sr1 r1 h1 => ?_
  refine RM.bind (m := ev G call b) (k := fun en y => M.of (idxD d1 y)) er1 sr1 h1 fun y H2 θ2 d2 μ2 er2 st2 sr2 r2 h2 => ?_
  obtain ⟨d, e, h3⟩ := Wp.of h2 sr2
  exact ⟨θ2, μ2, d1, d2, d, sr2, r1.step st2, r2, e, h3⟩
theorem po_noneD : PO X none (RO X.K T Ce G call W .none) := by
  refine ⟨fun pins s σ H Q I ⟨en, μ, θ, er, sr, h⟩ => po_none.run pins s σ H Q I (h θ H none .refl sr rfl)⟩
theorem po_someD {me : ME} {e : Expr} (he : PE X e ((RE X.K T Ce G call W) me)) : PO X (some e) (RO X.K T Ce G call W (.some me)) := by
  refine ⟨fun pins s σ H Q I ⟨en, μ, θ, er, sr, h⟩ => (po_some he).run pins s σ H Q I ?_⟩
  refine RM.bind (m := ev G call me) (k := fun en x => M.of ((intOf x).map some)) er sr h fun x H1 θ1 d1 μ1 er1 st1 sr1 r1 h1 => ?_
  obtain ⟨d, e, h3⟩ := Wp.of h1 sr1
  cases r1 with
  | int i => cases e; exact ⟨i, rfl, h3 θ1 H1 _ .refl sr1 rfl⟩
  | _ => cases e
theorem pe_sliceD {a : ME} {lo hi : MO} {x : Expr} {l h : Option Expr} {p2 pos : Pos} (ha : PE X x ((RE X.K T Ce G call W) a)) (hl : PO X l (RO X.K T Ce G call W lo)) (hh : PO X h (RO X.K T Ce G call W hi)) : PE X (.Subscript x (.Slice l h none p2) pos) ((RE X.K T Ce G call W) (.slice a lo hi)) := by
  refine PE.imp (pe_slice (sl_ok (T := T)) ha hl hh) fun σ H Q ⟨en, μ, θ, er, sr, h⟩ => ?_
  refine RM.bind (m := ev G call a) (k := fun en x => (evo G call lo en).bind fun l => (evo G call hi en).bind fun h => M.of (slD x l h)) er sr h fun x H1 θ1 d1 μ1 er1 st1 sr1 r1 h1 => ?_
  refine RM.bind (m := evo G call lo) (rel := relO) (k := fun en l => (evo G call hi en).bind fun h => M.of (slD d1 l h)) er1 sr1 h1 fun y H2 θ2 d2 μ2 er2 st2 sr2 r2 h2 => ?_
  obtain rfl : d2 = y := r2
  refine RM.bind (m := evo G call hi) (rel := relO) (k := fun en h => M.of (slD d1 d2 h)) er2 sr2 h2 fun z H3 θ3 d3 μ3 er3 st3 sr3 r3 h3 => ?_
  obtain rfl : d3 = z := r3
  obtain ⟨d, e, h4⟩ := Wp.of h3 sr3
  exact ⟨θ3, μ3, d1, d, sr3, (r1.step st2).step st3, e, h4⟩
theorem pe_bltD {b : Blt} {mes : MEs} {x : Str} {p pos : Pos} {e : Expr} {es : List Expr} (hc : X.calm = true) (hx : x = bltName b) (hg : Gl X x) (hm : X.mg x = none) (hs : (e :: es).all notStar = true) (h : PA X (e :: es) (RAs X.K T Ce G call W mes)) : PE X (.Call (.Name x p) (e :: es) [] pos) ((RE X.K T Ce G call W) (.blt b mes)) := by
  rw [List.all_cons, Bool.and_eq_true] at hs
  have imp : ∀ σ H Q, (RE X.K T Ce G call W) (.blt b mes) σ H Q → tCB (rBlt X.K T b) (RAs X.K T Ce G call W mes) σ H Q := fun σ H Q ⟨en, μ, θ, er, sr, h⟩ => by
    refine RM.bind (m := evs G call mes) (rel := VRs X.K) (k := fun en xs => M.of (bltD b xs)) er sr h fun x H1 θ1 d1 μ1 er1 st1 sr1 r1 h1 => ?_
    obtain ⟨d, e, h3⟩ := Wp.of h1 sr1
    exact ⟨θ1, μ1, d1, d, sr1, r1, e, h3⟩
  have ok := blt_ok (X := X) (T := T) b hc
  subst hx
  cases b with
  | len => exact PE.imp (pe_callB ok hg hm (by decide +kernel) h (by decide) (by decide) (star_cons hs.1) (star_none hs.2)) imp
  | abs => exact PE.imp (pe_callB ok hg hm (by decide +kernel) h (by decide) (by decide) (star_cons hs.1) (star_none hs.2)) imp
  | min2 => exact PE.imp (pe_callB ok hg hm (by decide +kernel) h (by decide) (by decide) (star_cons hs.1) (star_none hs.2)) imp
  | max2 => exact PE.imp (pe_callB ok hg hm (by decide +kernel) h (by decide) (by decide) (star_cons hs.1) (star_none hs.2)) imp
  | sum => exact PE.imp (pe_callB ok hg hm (by decide +kernel) h (by decide) (by decide) (star_cons hs.1) (star_none hs.2)) imp
  | all => exact PE.imp (pe_callB ok hg hm (by decide +kernel) h (by decide) (by decide) (star_cons hs.1) (star_none hs.2)) imp
  | any => exact PE.imp (pe_callB ok hg hm (by decide +kernel) h (by decide) (by decide) (star_cons hs.1) (star_none hs.2)) imp
  | max1 => exact PE.imp (pe_callB ok hg hm (by decide +kernel) h (by decide) (by decide) (star_cons hs.1) (star_none hs.2)) imp
  | int => exact PE.imp (pe_callTy ok hg hm (by decide +kernel) h (by decide) (by decide) (star_cons hs.1) (star_none hs.2)) imp
  | tuple => exact PE.imp (pe_callTy ok hg hm (by decide +kernel) h (by decide) (by decide) (star_cons hs.1) (star_none hs.2)) imp
  | list => exact PE.imp (pe_callTy ok hg hm (by decide +kernel) h (by decide) (by decide) (star_cons hs.1) (star_none hs.2)) imp
  | str => exact PE.imp (pe_callTy ok hg hm (by decide +kernel) h (by decide) (by decide) (star_cons hs.1) (star_none hs.2)) imp
theorem pe_isiD {t : Ty} {a : ME} {y : Expr} {p p2 pos : Pos} (hg : Gl X "isinstance") (hm : X.mg "isinstance" = none) (hg2 : Gl X (tyName t)) (hm2 : X.mg (tyName t) = none) (hs : notStar y = true) (ha : PE X y ((RE X.K T Ce G call W) a)) :
    PE X (.Call (.Name "isinstance" p) [y, .Name (tyName t) p2] [] pos) ((RE X.K T Ce G call W) (.isi a t)) := by
  have hT : PE X (.Name (tyName t) p2) (tC (.ty (tyName t))) := by
    cases t <;> exact pe_bltn (v := .ty _) hg2 hm2 (by decide +kernel) rfl
  refine PE.imp (pe_callB (isi_ok (T := T) t) hg hm (by decide +kernel) (pa_cons ha (pa_cons hT pa_nil) (star_cons hs)) (by decide) (by decide) (star_cons hs) (star_none rfl)) fun σ H Q ⟨en, μ, θ, er, sr, h⟩ => ?_
  refine RM.bind (m := ev G call a) (k := fun en x => M.of (if tyOk x then some (PyData.bool (isTy x t)) else none)) er sr h fun x H1 θ1 d1 μ1 er1 st1 sr1 r1 h1 => ?_
  obtain ⟨d, e, h3⟩ := Wp.of h1 sr1
  split at e
  · cases e
    exact ⟨θ1, μ1, d1, x, sr1, rfl, r1, h3 θ1 H1 _ .refl sr1 (.bl _)⟩
  · cases e
theorem pe_idxCD {i : Nat} {b : ME} {x : Str} {r : Expr} {p pos : Pos} (hN : X.N[i]? = some x) (hv : Vis X.env.scope x) (hd : (x == ("__debug__" : Str)) = false) (hcd : (x == ("__classdict__" : Str)) = false) (hs : PlainIx r) (hb : PE X r ((RE X.K T Ce G call W) b)) : PE X (.Subscript (.Name x p) r pos) ((RE X.K T Ce G call W) (.idxC i b)) := by
  refine PE.imp (pe_ix ix_list (pe_var hN hv hd hcd) hb hs) fun σ H Q ⟨en, μ, θ, er, sr, h⟩ => ?_
  have h : Wp X.K T Ce (VR X.K) W σ θ H (M.bind (M.of (lookC en i)) (fun k => (ev G call b en).bind fun y => fun μ => match cellL μ k, y with
    | some xs, .int j => M.of (atI xs j) μ
    | _, _ => none) μ) Q := h
  obtain ⟨k, ek, h1⟩ := Wp.ofB h
  obtain ⟨v, e1, rv⟩ := cell_here er ek
  refine ⟨_, e1, ?_⟩
  refine RM.bind (m := ev G call b) (k := fun en y => fun μ => match cellL μ k, y with
    | some xs, .int j => M.of (atI xs j) μ
    | _, _ => none) er sr h1 fun y H2 θ2 d2 μ2 er2 st2 sr2 r2 h2 => ?_
  cases hc : cellL μ2 k with
  | none =>
    rw [hc] at h2
    exact h2.elim
  | some ds =>
    rw [hc] at h2
    cases r2 with
    | int j =>
      obtain ⟨d, e, h3⟩ := Wp.of (show Wp X.K T Ce (VR X.K) W σ θ2 H2 (M.of (atI ds j) μ2) Q from h2) sr2
      obtain ⟨a', vs, rfl, ea', ha', rs⟩ := cell_back st2 sr2 rv hc
      obtain ⟨w, ew, rw'⟩ := atI_rel rs e
      exact ⟨a', vs, j, w, rfl, rfl, SqL.of ha', ew, h3 θ2 H2 _ .refl sr2 rw'⟩
    | _ => exact h2.elim
theorem pe_stkD {e : Expr} : PE X e ((RE X.K T Ce G call W) .stk) := ⟨fun pins s σ H Q I ⟨en, μ, θ, er, sr, h⟩ => h.elim⟩
theorem pe_nlD {e : Expr} : PE X e ((RE X.K T Ce G call W) .nl) := ⟨fun pins s σ H Q I ⟨en, μ, θ, er, sr, h⟩ => h.elim⟩
/-! cells read in place -/
/-- a cell's list as it lies -/
def CL (K : PySem.W.Frag) (H : Hp) (θ : Th) (ds : List D) (v : V) : Prop := ∃ a xs, v = .ref a ∧ H a = some (.lst xs) ∧ VRs K H θ ds xs
theorem CL.dp {K : PySem.W.Frag} {H : Hp} {θ : Th} {ds : List D} {v : V} (h : CL K H θ ds v) : Dp K H v (.list ds) := by
  obtain ⟨a, xs, rfl, ha, rs⟩ := h
  exact .lst (SqL.of ha) rs.dp
def rCopC (K : PySem.W.Frag) (T : List (Addr × Str)) (op : COp) : R2 := fun x y H Q => ∃ θ ds d2 b, CL K H θ ds x ∧ VR K H θ d2 y ∧ (op = .eq ∨ op = .ne) ∧ cop op (.list ds) d2 = some b ∧ Q (.bl b) H
theorem copC_ok (op : COp) (hu : X.A.units + 65 < cLine) : OpR X (compareOp (copOf op)) (rCopC X.K T op) := by
  intro pins s σ H x y v u Q I rx ry h
  obtain ⟨θ, ds, d2, b, r1, r2, ho, e, q⟩ := h
  rcases ho with rfl | rfl
  · have e : (if (okEq (.list ds) && okEq d2) = true then some (PyData.eqv (.list ds) d2) else none) = some b := e
    split at e
    · rename_i hc
      have hc := Bool.and_eq_true_iff.mp hc
      cases e
      exact op_eqD (by omega) pins s σ H _ _ v u Q I rx ry ⟨_, d2, r1.dp, r2.dp, hc.1, hc.2, q⟩
    · cases e
  · have e : (if (okEq (.list ds) && okEq d2) = true then some (!PyData.eqv (.list ds) d2) else none) = some b := e
    split at e
    · rename_i hc
      have hc := Bool.and_eq_true_iff.mp hc
      cases e
      exact op_neD (by omega) pins s σ H _ _ v u Q I rx ry ⟨_, d2, r1.dp, r2.dp, hc.1, hc.2, q⟩
    · cases e
theorem cmpCRd {op : COp} {i : Nat} {b : ME} {σ : St} {H : Hp} {Q : VK} {K : PySem.W.Frag} (h : RE K T Ce G call W (.cmpC op i b) σ H Q) : tOp (rCopC K T op) (tVar i) (RE K T Ce G call W b) σ H Q := by
  obtain ⟨en, μ, θ, er, sr, h⟩ := h
  have h : Wp K T Ce (VR K) W σ θ H (M.bind (M.of (lookC en i)) (fun k => (ev G call b en).bind fun y => fun μ => match cellL μ k with
    | some xs => if op = .eq ∨ op = .ne then M.of ((cop op (.list xs) y).map PyData.bool) μ else none
    | none => none) μ) Q := h
  obtain ⟨k, ek, h1⟩ := Wp.ofB h
  obtain ⟨v, e1, rv⟩ := cell_here er ek
  refine ⟨_, e1, ?_⟩
  refine RM.bind (m := ev G call b) (k := fun en y => fun μ => match cellL μ k with
    | some xs => if op = .eq ∨ op = .ne then M.of ((cop op (.list xs) y).map PyData.bool) μ else none
    | none => none) er sr h1 fun y H2 θ2 d2 μ2 er2 st2 sr2 r2 h2 => ?_
  cases hc : cellL μ2 k with
  | none =>
    rw [hc] at h2
    exact h2.elim
  | some ds =>
    rw [hc] at h2
    have h2 : Wp K T Ce (VR K) W σ θ2 H2 (if op = .eq ∨ op = .ne then M.of ((cop op (.list ds) d2).map PyData.bool) μ2 else none) Q := h2
    split at h2
    · rename_i ho
      obtain ⟨d, e, h3⟩ := Wp.of h2 sr2
      cases q : cop op (.list ds) d2 with
      | none => rw [q] at e; cases e
      | some c =>
        rw [q] at e
        cases e
        obtain ⟨a', vs, rfl, ea', ha', rs⟩ := cell_back st2 sr2 rv hc
        exact ⟨θ2, ds, d2, c, ⟨a', vs, rfl, ha', rs⟩, r2, ho, q, h3 θ2 H2 _ .refl sr2 (.bl _)⟩
    · exact h2.elim
theorem pe_cmpCD {op : COp} {i : Nat} {b : ME} {x : Str} {p : Pos} {r : Expr} {pos : Pos} (hu : X.A.units + 65 < cLine) (hm : behindInMarks (copOf op) r = false) (hN : X.N[i]? = some x) (hv : Vis X.env.scope x) (hd : (x == ("__debug__" : Str)) = false) (hcd : (x == ("__classdict__" : Str)) = false) (hb : PE X r ((RE X.K T Ce G call W) b)) : PE X (.Compare (.Name x p) [copOf op] [r] pos) ((RE X.K T Ce G call W) (.cmpC op i b)) :=
  PE.imp (pe_cmpR (copC_ok (T := T) op hu) (pe_var hN hv hd hcd) hb hm) fun σ H Q h => cmpCRd h
theorem pt_cmpCD {op : COp} {i : Nat} {b : ME} {x : Str} {p : Pos} {r : Expr} {pos : Pos} (hu : X.A.units + 65 < cLine) (hm : behindInMarks (copOf op) r = false) (hN : X.N[i]? = some x) (hv : Vis X.env.scope x) (hd : (x == ("__debug__" : Str)) = false) (hcd : (x == ("__classdict__" : Str)) = false) (hb : PE X r ((RE X.K T Ce G call W) b)) : PT X (.Compare (.Name x p) [copOf op] [r] pos) ((RT X.K T Ce G call W) (.cmpC op i b)) :=
  PT.imp (pt_cmpR (copC_ok (T := T) op hu) (pe_var hN hv hd hcd) hb hm) fun σ H Q h => cmpCRd h.of
/-- x in a cell -/
def inOp (neg : Bool) : COp := if neg then .nin else .inn
def rInC (K : PySem.W.Frag) (neg : Bool) : R2 := fun x y H Q => ∃ θ ds d b, VR K H θ d x ∧ CL K H θ ds y ∧ cop (inOp neg) d (.list ds) = some b ∧ Q (.bl b) H
theorem inC_case {K : PySem.W.Frag} {H : Hp} {θ : Th} {x : D} {ys : List D} {v u : V} {b : Bool} (r1 : VR K H θ x v) (r2 : CL K H θ ys u) (e : inD x (.list ys) = some b) : (∃ p xs, u = .ref p ∧ SqL K H p xs ∧ flatV v = true ∧ xs.all flatV = true ∧ inV v xs = b) ∨ okEq x = true ∧ okEq (.list ys) = true ∧ (ys.any fun y => PyData.eqv y x) = b := by
  have e : (if (flatD x && ys.all flatD) = true then some (ys.any fun y => PyData.eqv y x) else if (okEq x && okEq (.list ys)) = true then some (ys.any fun y => PyData.eqv y x) else none) = some b := e
  split at e
  · rename_i hc
    have hc := Bool.and_eq_true_iff.mp hc
    cases e
    obtain ⟨a, vs, rfl, ha, rs⟩ := r2
    exact .inl ⟨a, vs, rfl, SqL.of ha, flat_V r1 hc.1, flat_Vs rs hc.2, any_eqv r1 hc.1 rs hc.2⟩
  · split at e
    · rename_i hc
      have hc := Bool.and_eq_true_iff.mp hc
      cases e
      exact .inr ⟨hc.1, hc.2, rfl⟩
    · cases e
theorem inC_ok (neg : Bool) (hu : X.A.units + 65 < cLine) : OpR X (compareOp (copOf (inOp neg))) (rInC X.K neg) := by
  intro pins s σ H x y v u Q I rx ry h
  obtain ⟨θ, ds, d, b, r1, r2, e, q⟩ := h
  cases neg with
  | false =>
    rcases inC_case r1 r2 (show inD d (.list ds) = some b from e) with ⟨p, xs, rfl, hs, f1, f2, e2⟩ | ⟨o1, o2, e2⟩
    · exact op_in_seq pins s σ H _ _ v u Q I rx ry ⟨p, xs, rfl, .inl hs, f1, f2, by rw [e2]; exact q⟩
    · exact op_inD hu pins s σ H _ _ v u Q I rx ry ⟨d, ds, r1.dp, r2.dp, o1, o2, by rw [e2]; exact q⟩
  | true =>
    have e : (inD d (.list ds)).map (fun b => !b) = some b := e
    cases q1 : inD d (.list ds) with
    | none => rw [q1] at e; cases e
    | some c =>
      rw [q1] at e
      cases e
      rcases inC_case r1 r2 q1 with ⟨p, xs, rfl, hs, f1, f2, e2⟩ | ⟨o1, o2, e2⟩
      · exact op_notIn_seq pins s σ H _ _ v u Q I rx ry ⟨p, xs, rfl, .inl hs, f1, f2, by rw [e2]; exact q⟩
      · exact op_notInD hu pins s σ H _ _ v u Q I rx ry ⟨d, ds, r1.dp, r2.dp, o1, o2, by rw [e2]; exact q⟩
theorem inCRd {neg : Bool} {i : Nat} {b : ME} {σ : St} {H : Hp} {Q : VK} {K : PySem.W.Frag} (h : RE K T Ce G call W (.inC neg b i) σ H Q) : tOp (rInC K neg) (RE K T Ce G call W b) (tVar i) σ H Q := by
  obtain ⟨en, μ, θ, er, sr, h⟩ := h
  refine RM.bind (m := ev G call b) (k := fun en x => (M.of (lookC en i)).bind fun k => fun μ => match cellL μ k with
    | some xs => M.of ((cop (if neg then .nin else .inn) x (.list xs)).map PyData.bool) μ
    | none => none) er sr h fun y H2 θ2 d2 μ2 er2 st2 sr2 r2 h2 => ?_
  obtain ⟨k, ek, h1⟩ := Wp.ofB h2
  obtain ⟨v, e1, rv⟩ := cell_here er2 ek
  refine ⟨_, e1, ?_⟩
  cases hc : cellL μ2 k with
  | none =>
    rw [hc] at h1
    exact h1.elim
  | some ds =>
    rw [hc] at h1
    obtain ⟨d, e, h3⟩ := Wp.of (show Wp K T Ce (VR K) W σ θ2 H2 (M.of ((cop (inOp neg) d2 (.list ds)).map PyData.bool) μ2) Q from h1) sr2
    cases q : cop (inOp neg) d2 (.list ds) with
    | none => rw [q] at e; cases e
    | some c =>
      rw [q] at e
      cases e
      obtain ⟨a', vs, rfl, ea', ha', rs⟩ := cell_back .refl sr2 rv hc
      exact ⟨θ2, ds, d2, c, r2, ⟨a', vs, rfl, ha', rs⟩, q, h3 θ2 H2 _ .refl sr2 (.bl _)⟩
theorem pe_inCD {neg : Bool} {i : Nat} {b : ME} {x : Str} {p : Pos} {r : Expr} {pos : Pos} (hu : X.A.units + 65 < cLine) (hN : X.N[i]? = some x) (hv : Vis X.env.scope x) (hd : (x == ("__debug__" : Str)) = false) (hcd : (x == ("__classdict__" : Str)) = false) (hb : PE X r ((RE X.K T Ce G call W) b)) : PE X (.Compare r [copOf (inOp neg)] [.Name x p] pos) ((RE X.K T Ce G call W) (.inC neg b i)) :=
  PE.imp (pe_cmpR (inC_ok neg hu) hb (pe_var hN hv hd hcd) (by cases neg <;> rfl)) fun σ H Q h => inCRd h
theorem pt_inCD {neg : Bool} {i : Nat} {b : ME} {x : Str} {p : Pos} {r : Expr} {pos : Pos} (hu : X.A.units + 65 < cLine) (hN : X.N[i]? = some x) (hv : Vis X.env.scope x) (hd : (x == ("__debug__" : Str)) = false) (hcd : (x == ("__classdict__" : Str)) = false) (hb : PE X r ((RE X.K T Ce G call W) b)) : PT X (.Compare r [copOf (inOp neg)] [.Name x p] pos) ((RT X.K T Ce G call W) (.inC neg b i)) :=
  PT.imp (pt_cmpR (inC_ok neg hu) hb (pe_var hN hv hd hcd) (by cases neg <;> rfl)) fun σ H Q h => inCRd h.of
/-- a cell + a list -/
def rAddC (K : PySem.W.Frag) (T : List (Addr × Str)) : R2 := fun x y H Q => ∃ θ μ ds es d, SRel K T H θ μ ∧ CL K H θ ds x ∧ VR K H θ (.list es) y ∧ bop .add (.list ds) (.list es) = some d ∧ After K T θ H μ d Q
theorem addC_ok : OpR X (binaryOp .Add) (rAddC X.K T) := by
  intro pins s σ H x y v u Q I rx ry h
  obtain ⟨θ, μ, xs, ys, d, sr, r1, r2, e, af⟩ := h
  have e : (if xs.length + ys.length ≤ 1000000 then some (PyData.list (xs ++ ys)) else none) = some d := e
  split at e
  · cases e
    obtain ⟨a, vs, rfl, ha, rs⟩ := r1
    obtain ⟨b, us, rfl, hb, nb, ts⟩ := r2.lstOf
    refine op_cat pins s σ H _ _ v u Q I rx ry ⟨a, b, vs, us, rfl, rfl, ha, hb, ?_, fun p hp => af.newL sr (rs.append ts) hp⟩
    rw [← rs.length, ← ts.length]
    exact line6 (by assumption)
  · cases e
theorem pe_addCD {i : Nat} {b : ME} {x : Str} {p : Pos} {r : Expr} {pos : Pos} (hN : X.N[i]? = some x) (hv : Vis X.env.scope x) (hd : (x == ("__debug__" : Str)) = false) (hcd : (x == ("__classdict__" : Str)) = false) (hb : PE X r ((RE X.K T Ce G call W) b)) : PE X (.BinOp (.Name x p) .Add r pos) ((RE X.K T Ce G call W) (.binC .add i b)) := by
  refine PE.imp (pe_op (addC_ok (T := T)) (pe_var hN hv hd hcd) hb) fun σ H Q ⟨en, μ, θ, er, sr, h⟩ => ?_
  have h : Wp X.K T Ce (VR X.K) W σ θ H (M.bind (M.of (lookC en i)) (fun k => (ev G call b en).bind fun y => fun μ => match cellL μ k, BOp.add, y with
    | some xs, .add, .list ys => M.of (bop .add (.list xs) (.list ys)) μ
    | _, _, _ => none) μ) Q := h
  obtain ⟨k, ek, h1⟩ := Wp.ofB h
  obtain ⟨v, e1, rv⟩ := cell_here er ek
  refine ⟨_, e1, ?_⟩
  refine RM.bind (m := ev G call b) (k := fun en y => fun μ => match cellL μ k, BOp.add, y with
    | some xs, .add, .list ys => M.of (bop .add (.list xs) (.list ys)) μ
    | _, _, _ => none) er sr h1 fun y H2 θ2 d2 μ2 er2 st2 sr2 r2 h2 => ?_
  cases hc : cellL μ2 k with
  | none =>
    rw [hc] at h2
    exact h2.elim
  | some ds =>
    rw [hc] at h2
    cases d2 with
    | list es =>
      obtain ⟨d, e, h3⟩ := Wp.of (show Wp X.K T Ce (VR X.K) W σ θ2 H2 (M.of (bop .add (.list ds) (.list es)) μ2) Q from h2) sr2
      obtain ⟨a', vs, rfl, ea', ha', rs⟩ := cell_back st2 sr2 rv hc
      exact ⟨θ2, μ2, ds, es, d, sr2, ⟨a', vs, rfl, ha', rs⟩, r2, e, h3⟩
    | _ => exact h2.elim
/-- a slice of a cell -/
def rSlC (K : PySem.W.Frag) (T : List (Addr × Str)) : V → Option Int → Option Int → Hp → VK → Prop := fun x lo hi H Q => ∃ θ μ ds d, SRel K T H θ μ ∧ CL K H θ ds x ∧ slD (.list ds) lo hi = some d ∧ After K T θ H μ d Q
theorem slC_ok : SlR X (rSlC X.K T) := by
  intro pins s σ H x v vl vu lo hi sl Q I rx hs pl pu h
  obtain ⟨θ, μ, xs, d, sr, r1, e, af⟩ := h
  cases e
  obtain ⟨a, vs, rfl, ha, rs⟩ := r1
  exact sl_list pins s σ H _ v vl vu lo hi sl Q I rx hs pl pu ⟨a, vs, rfl, SqL.of ha, fun p hp => af.newL sr (cut_rel rs lo hi) hp⟩
theorem pe_sliceCD {i : Nat} {lo hi : MO} {x : Str} {p : Pos} {l h : Option Expr} {p2 pos : Pos} (hN : X.N[i]? = some x) (hv : Vis X.env.scope x) (hd : (x == ("__debug__" : Str)) = false) (hcd : (x == ("__classdict__" : Str)) = false) (hl : PO X l (RO X.K T Ce G call W lo)) (hh : PO X h (RO X.K T Ce G call W hi)) : PE X (.Subscript (.Name x p) (.Slice l h none p2) pos) ((RE X.K T Ce G call W) (.sliceC i lo hi)) := by
  refine PE.imp (pe_slice (slC_ok (T := T)) (pe_var hN hv hd hcd) hl hh) fun σ H Q ⟨en, μ, θ, er, sr, h⟩ => ?_
  have h : Wp X.K T Ce (VR X.K) W σ θ H (M.bind (M.of (lookC en i)) (fun k => (evo G call lo en).bind fun l => (evo G call hi en).bind fun h => fun μ => match cellL μ k with
    | some xs => M.of (slD (.list xs) l h) μ
    | none => none) μ) Q := h
  obtain ⟨k, ek, h1⟩ := Wp.ofB h
  obtain ⟨v, e1, rv⟩ := cell_here er ek
  refine ⟨_, e1, ?_⟩
  refine RM.bind (m := evo G call lo) (rel := relO) (k := fun en l => (evo G call hi en).bind fun h => fun μ => match cellL μ k with
    | some xs => M.of (slD (.list xs) l h) μ
    | none => none) er sr h1 fun y H2 θ2 d2 μ2 er2 st2 sr2 r2 h2 => ?_
  obtain rfl : d2 = y := r2
  refine RM.bind (m := evo G call hi) (rel := relO) (k := fun en h => fun μ => match cellL μ k with
    | some xs => M.of (slD (.list xs) d2 h) μ
    | none => none) er2 sr2 h2 fun z H3 θ3 d3 μ3 er3 st3 sr3 r3 h3 => ?_
  obtain rfl : d3 = z := r3
  cases hc : cellL μ3 k with
  | none =>
    rw [hc] at h3
    exact h3.elim
  | some ds =>
    rw [hc] at h3
    obtain ⟨d, e, h4⟩ := Wp.of (show Wp X.K T Ce (VR X.K) W σ θ3 H3 (M.of (slD (.list ds) d2 d3) μ3) Q from h3) sr3
    obtain ⟨a', vs, rfl, ea', ha', rs⟩ := cell_back (st2.trans st3) sr3 rv hc
    exact ⟨θ3, μ3, ds, d, sr3, ⟨a', vs, rfl, ha', rs⟩, e, h4⟩
/-- a built-in of a cell -/
def bltCOk : Blt → Bool
  | .len => true
  | .tuple => true
  | .list => true
  | .all => true
  | .any => true
  | .sum => true
  | .max1 => true
  | _ => false
def rBltC (K : PySem.W.Frag) (T : List (Addr × Str)) (b : Blt) : List V → Hp → VK → Prop := fun vs H Q => ∃ θ μ ds d v, SRel K T H θ μ ∧ vs = [v] ∧ CL K H θ ds v ∧ bltD b [.list ds] = some d ∧ After K T θ H μ d Q
theorem bltC_ok (b : Blt) (hb : bltCOk b = true) (hc : X.calm = true) : CallR X (bltVal b) (rBltC X.K T b) := by
  intro pins s σ H xs us Q I r h
  obtain ⟨θ, μ, ds, d, v, sr, rfl, ⟨a, vs, rfl, ha, qs⟩, e, af⟩ := h
  cases b with
  | len =>
    cases e
    refine call_len_seq pins s σ H _ us Q I r ⟨a, vs, rfl, .inl (SqL.of ha), ?_⟩
    rw [← qs.length]
    exact af.here sr (.int _)
  | sum =>
    have e : (intsOf ds).map (fun ns => PyData.int ns.sum) = some d := e
    cases q : intsOf ds with
    | none => rw [q] at e; cases e
    | some ns =>
      rw [q] at e
      cases e
      exact cr_sum hc pins s σ H _ us Q I r ⟨a, ns, rfl, by rw [← ints_rel qs q]; exact SqL.of ha, af.here sr (.int _)⟩
  | all =>
    have e : (bolsOf ds).map (fun bs => PyData.bool (bs.all id)) = some d := e
    cases q : bolsOf ds with
    | none => rw [q] at e; cases e
    | some ns =>
      rw [q] at e
      cases e
      exact cr_all hc pins s σ H _ us Q I r ⟨a, ns, rfl, by rw [← bols_rel qs q]; exact SqL.of ha, af.here sr (.bl _)⟩
  | any =>
    have e : (bolsOf ds).map (fun bs => PyData.bool (bs.any id)) = some d := e
    cases q : bolsOf ds with
    | none => rw [q] at e; cases e
    | some ns =>
      rw [q] at e
      cases e
      exact cr_any hc pins s σ H _ us Q I r ⟨a, ns, rfl, by rw [← bols_rel qs q]; exact SqL.of ha, af.here sr (.bl _)⟩
  | tuple =>
    cases e
    exact call_tuple_of pins s σ H _ us Q I r ⟨a, vs, rfl, .inl ⟨SqL.of ha, fun l hl => af.newT sr qs hl⟩⟩
  | list =>
    cases e
    exact call_list_of pins s σ H _ us Q I r ⟨a, vs, rfl, .inl (SqL.of ha), fun l hl => af.newL sr qs hl⟩
  | max1 =>
    have e : ((intsOf ds).bind fun ns => if ns = [] then none else some (PyData.int (maxI ns))) = some d := e
    cases q : intsOf ds with
    | none => rw [q] at e; cases e
    | some ns =>
      rw [q] at e
      have e : (if ns = [] then none else some (PyData.int (maxI ns))) = some d := e
      split at e
      · cases e
      · rename_i hn
        cases e
        refine cr_max hc pins s σ H _ us Q I r ⟨a, ns, rfl, by rw [← ints_rel qs q]; exact SqL.of ha, ?_, fun m hm hy => ?_⟩
        · cases ns with
          | nil => exact absurd rfl hn
          | cons _ _ => exact Nat.succ_pos _
        · obtain ⟨h1, h2⟩ := maxI_max ns hn
          have e1 : m = maxI ns := Int.le_antisymm (h2 m hm) (hy _ h1)
          rw [e1]
          exact af.here sr (.int _)
  | _ => cases hb
theorem pe_bltCD {b : Blt} {i : Nat} {x y : Str} {p p2 pos : Pos} (hb : bltCOk b = true) (hc : X.calm = true) (hx : x = bltName b) (hg : Gl X x) (hm : X.mg x = none) (hN : X.N[i]? = some y) (hv : Vis X.env.scope y) (hd : (y == ("__debug__" : Str)) = false) (hcd : (y == ("__classdict__" : Str)) = false) : PE X (.Call (.Name x p) [.Name y p2] [] pos) ((RE X.K T Ce G call W) (.bltC b i)) := by
  have imp : ∀ σ H Q, (RE X.K T Ce G call W) (.bltC b i) σ H Q → tCB (rBltC X.K T b) (tCons (tVar i) tNil) σ H Q := fun σ H Q ⟨en, μ, θ, er, sr, h⟩ => by
    have h : Wp X.K T Ce (VR X.K) W σ θ H (M.bind (M.of (lookC en i)) (fun k => fun μ => match cellL μ k with
      | some xs => M.of (bltD b [.list xs]) μ
      | none => none) μ) Q := h
    obtain ⟨k, ek, h1⟩ := Wp.ofB h
    obtain ⟨v, e1, rv⟩ := cell_here er ek
    refine ⟨_, e1, ?_⟩
    cases hc : cellL μ k with
    | none =>
      rw [hc] at h1
      exact h1.elim
    | some ds =>
      rw [hc] at h1
      obtain ⟨d, e, h3⟩ := Wp.of (show Wp X.K T Ce (VR X.K) W σ θ H (M.of (bltD b [.list ds]) μ) Q from h1) sr
      obtain ⟨a', vs, rfl, ea', ha', rs⟩ := cell_back .refl sr rv hc
      exact ⟨θ, μ, ds, d, _, sr, rfl, ⟨a', vs, rfl, ha', rs⟩, e, h3⟩
  have h : PA X [.Name y p2] (tCons (tVar i) tNil) := pa_cons (pe_var hN hv hd hcd) pa_nil
  have ok := bltC_ok (X := X) (T := T) b hb hc
  subst hx
  cases b with
  | len => exact PE.imp (pe_callB ok hg hm (by decide +kernel) h (by decide) (by decide)) imp
  | sum => exact PE.imp (pe_callB ok hg hm (by decide +kernel) h (by decide) (by decide)) imp
  | all => exact PE.imp (pe_callB ok hg hm (by decide +kernel) h (by decide) (by decide)) imp
  | any => exact PE.imp (pe_callB ok hg hm (by decide +kernel) h (by decide) (by decide)) imp
  | max1 => exact PE.imp (pe_callB ok hg hm (by decide +kernel) h (by decide) (by decide)) imp
  | tuple => exact PE.imp (pe_callTy ok hg hm (by decide +kernel) h (by decide) (by decide)) imp
  | list => exact PE.imp (pe_callTy ok hg hm (by decide +kernel) h (by decide) (by decide)) imp
  | _ => cases hb
end
end Mp

set_option maxRecDepth 100000
set_option maxHeartbeats 4000000
/-! Me0: enumerate of a tuple. -/
namespace Mp
open PySem PyProof.Rows L2
open AutoSeq1 (wpAny_loadPart')
theorem enumT_new (l : Addr) (items : Array Value) (n : Nat) (dct : Option Addr) (sl : Array (Option Value)) :
    Meets (Builtin.«enumerate.__new__» ⟨[.type "enumerate", .ref l], []⟩) (fun _ R s => s.heap.get? l = some { cls := .type "tuple", dict := dct, data := .seq items n, slots := sl } ∧
      R (.ok (.ret (.ref (s.heap.push { cls := .type "tuple_iterator", data := .fields #[.ref l, .int 0 0] }).objs.size)))
        { s with heap := (s.heap.push { cls := .type "tuple_iterator", data := .fields #[.ref l, .int 0 0] }).push { cls := .type "enumerate", data := .fields #[.none, .bool false, .ref s.heap.objs.size, rawInt 0, .none, .none] } }) :=
  .of_wp fun prog w A R s h => by
    obtain ⟨hp, g, d, tk, os⟩ := s
    obtain ⟨hl, h⟩ := h
    have hsub := sub_enumerate
    have hL : Heap.IsTuple (Shared.heap ⟨hp, g, d, tk, os⟩) l items := ⟨_, hl, rfl, n, rfl⟩
    wp_walk using wpAny_loadPart' hl
    refine wpAny_stack_any fun st => wpAny_pure ?_
    split
    · rename_i c _ _ _ _ _
      cases (c == Value.type "enumerate") <;> (wp_walk using wpAny_loadPart' hl, wpAny_pyIter_tuple hL; exact ⟨_, rfl, h⟩)
    · wp_walk using wpAny_loadPart' hl, wpAny_pyIter_tuple hL
      exact ⟨_, rfl, h⟩
section
variable {prog : Program} {w : World} {A : Around} {E : Value → Shared → Prop} {s : Shared}
theorem call_enumT {l : Addr} {items : Array Value} {Q : Value → Shared → Prop} (hL : s.heap.IsTuple l items)
    (h : ∀ h', IsEnum h' (s.heap.objs.size + 1) s.heap.objs.size 0 .none → h'.IsTupleIter s.heap.objs.size l 0 → h'.objs.size = s.heap.objs.size + 2 →
      (∀ b o, s.heap.get? b = some o → h'.get? b = some o) → Q (.ref (s.heap.objs.size + 1)) { s with heap := h' }) :
    wpAny (model prog w) A (call (.type "enumerate") [.ref l]) Q E s := by
  obtain ⟨⟨c, dct, dt, sl⟩, hl, hc, n, hd⟩ := hL
  simp only at hc hd
  subst hc hd
  refine callType_new F.called_enumerate (by decide) (F.typeCall_enumerate_1 _) (F.newCall_enumerate_1 _) (fun obj => F.args_object_init_2 obj _) F.entry_enumerate_new (enumT_new l items n dct sl) ⟨hl, ?_⟩
  have hz : (s.heap.push { cls := .type "tuple_iterator", data := .fields #[.ref l, .int 0 0] }).objs.size = s.heap.objs.size + 1 := Heap.size_push ..
  show _ ∧ _
  rw [hz]
  have he : IsEnum ((s.heap.push { cls := .type "tuple_iterator", data := .fields #[.ref l, .int 0 0] }).push
      { cls := .type "enumerate", data := .fields #[.none, .bool false, .ref s.heap.objs.size, rawInt 0, .none, .none] }) (s.heap.objs.size + 1) s.heap.objs.size 0 .none := by
    have := Heap.get?_push_size (s.heap.push { cls := .type "tuple_iterator", data := .fields #[.ref l, .int 0 0] })
      (o := { cls := .type "enumerate", data := .fields #[.none, .bool false, .ref s.heap.objs.size, rawInt 0, .none, .none] }) rfl
    rw [hz] at this; exact this
  refine ⟨⟨_, he, rfl⟩, h _ he ⟨_, Heap.get?_push_of_some _ (Heap.get?_push_size _ rfl), rfl, rfl⟩ (by rw [Heap.size_push, hz]) fun b o x => Heap.get?_push_of_some _ (Heap.get?_push_of_some _ x)⟩
end
/-- the tuple at a, each item in a new pair -/
def IteT (K : PySem.W.Frag) (a : Addr) : It :=
  ⟨fun i H => ∃ (xs : List V) (x : V), SqT K H a xs ∧ xs[i]? = some x, fun i H v H' => ∃ T x, v = .ref T ∧ H T = none ∧ H' = upd H T (.tup [.int (i : Nat), x]) ∧ ∀ xs, SqT K H a xs → xs[i]? = some x, fun i H => ∃ xs : List V, SqT K H a xs ∧ xs.length = i⟩
theorem turn_enumT {P : Program} {w : World} {K : PySem.W.Frag} {elts : List Expr} {kk : Nat} {tpos : Pos} (a e it : Addr) (hait : a ≠ it) (hea : e ≠ a) :
    Turn P w K (.Tuple elts kk tpos) (IteT K a) [e, it] e (fun i h => (∃ old, IsEnum h e it ((i : Nat) : Int) old) ∧ h.IsTupleIter it a i ∧ e ≠ it) where
  mem := by simp
  obj := fun i h st b hb => by
    obtain ⟨⟨old, he⟩, ⟨o, ho, hc, hd⟩, _⟩ := st
    have e' : b = e ∨ b = it := by simpa using hb
    rcases e' with z | z
    · rw [z]; exact ⟨_, he, fun v q => nomatch q⟩
    · rw [z]; exact ⟨o, ho, fun v q => by rw [hd] at q; cases q⟩
  keep := fun i h h' st k => let ⟨⟨old, he⟩, hi, hne⟩ := st; ⟨⟨old, k e (by simp) _ he⟩, hi.at fun o q => k it (by simp) o q, hne⟩
  item := by
    intro X hP hw hK hc i pins s σ H E I hf st hg
    subst hP hw hK
    obtain ⟨⟨old, he⟩, hit, hne⟩ := st
    obtain ⟨xs, x, hq, hx⟩ := hg
    obtain ⟨its, rv, p, hz⟩ := I.tuple hq
    obtain ⟨u, hu, ru⟩ := rv.get hx
    have hel : e < s.heap.objs.size := Heap.lt_size he
    have hil : it < s.heap.objs.size := by obtain ⟨_, q, _⟩ := hit; exact Heap.lt_size q
    have hlt : i < its.toArray.size := by
      have := (List.getElem?_eq_some_iff.mp hu).1
      simpa using this
    refine wpAny_pyNext_enum_itemD (Draws.tuple (A := X.A.in1) (I.ok.hd hc) it a hait its.toArray) he ⟨hit, p⟩ hlt hne (by simp [hne, hea]) fun y h' tk hP ho hst' hT hsz hk => ?_
    have ey : y = u := by
      have hP : its.toArray[i]? = some y := hP
      have : its[i]? = some y := by simpa using hP
      rw [hu] at this
      exact (Option.some.inj this).symm
    subst ey
    refine ⟨_, rfl, wpAny_letOwnedTupleGo_enum (s := { s with heap := h', toks := tk + 1 }) ho fun h'' he' sb => ?_⟩
    have hT2 : h''.get? s.heap.objs.size = some { cls := .type "tuple", data := .seq #[.int i tk, y] } := (sb.2 _ (Nat.ne_of_gt hel)).trans hT
    have new : ObjOk X.prog X.w (upd H s.heap.objs.size (.tup [.int (i : Nat), x])) h'' s.heap.objs.size (.tup [.int (i : Nat), x]) :=
      ⟨by show 2 ≤ sizeLine; decide, [.int i tk, y], .cons ⟨_, rfl⟩ (.cons ru .nil), ⟨_, hT2, rfl, _, rfl⟩⟩
    have I1 : Inv X pins σ (upd H s.heap.objs.size (.tup [.int (i : Nat), x])) { s with heap := h'', toks := tk + 1 } :=
      I.turnedNew (ch := [e, it]) (fun b ob hb q => (sb.2 b (fun z => hb (by simp [z]))).trans (hk b ob (fun z => hb (by simp [z])) (fun z => hb (by simp [z])) q)) hf (Nat.le_refl _) new
    refine ⟨.ref s.heap.objs.size, _, I1, rfl, ⟨_, x, rfl, I.hok.fresh (Nat.le_refl _), rfl, fun ys hy => by rw [I.tuple_inj hy hq]; exact hx⟩, ⟨⟨y, ?_⟩, hst'.1.at fun o q => (sb.2 it (Ne.symm hne)).trans q, hne⟩, fun b hb => ?_⟩
    · have e1 : ((i + 1 : Nat) : Int) = (i : Int) + 1 := by omega
      rw [e1]; exact he'
    · have hb' : b < s.heap.objs.size := by
        have e' : b = e ∨ b = it := by simpa using hb
        rcases e' with z | z
        · rw [z]; exact hel
        · rw [z]; exact hil
      rw [upd_ne (Nat.ne_of_lt hb')]
      exact (hf b hb).1
  done := by
    intro X hP hw hK hc i pins s σ H E I hf st hg
    subst hP hw hK
    obtain ⟨⟨old, he⟩, hit, hne⟩ := st
    obtain ⟨xs, hq, hx⟩ := hg
    obtain ⟨its, rv, p, hz⟩ := I.tuple hq
    obtain ⟨f0, f1, f2, f3, f4, f5⟩ := hf it (by simp)
    have hi : i = its.toArray.size := by
      rw [← hx, rv.length]
      simp
    have hit : s.heap.IsTupleIter it a its.toArray.size := hi ▸ hit
    exact wpAny_pyNext_enum_endD (Draws.tuple (A := X.A.in1) (I.ok.hd hc) it a hait its.toArray) he ⟨hit, p⟩ fun h' eb => ⟨rfl, I.turned (t' := s.toks) (fun b o hb q => eb b o hb q) f0 f1 f3 f4 f5⟩
  self := fun A i s Q E st h => let ⟨⟨_, he⟩, _⟩ := st; wpAny_pyIter_enum he h
/-- enumerate of a list or a tuple -/
def iEnumA (K : PySem.W.Frag) (ta : TA) : TI := fun σ H R => ta σ H fun vs H1 => ∃ a xs, vs = [.ref a] ∧ ((SqL K H1 a xs ∧ R (Ite K a) H1) ∨ (SqT K H1 a xs ∧ R (IteT K a) H1))
theorem pi_enumA {X : Cx} {e : Expr} {ta : TA} {p pos tpos : Pos} {elts : List Expr} {kk : Nat} (hg : Gl X "enumerate") (hm : X.mg "enumerate" = none) (ha : PA X [e] ta) (hs : starEach [e] X.env = [(false, eval e X.env)] := by rfl) :
    PI X (.Tuple elts kk tpos) (.Call (.Name "enumerate" p) [e] [] pos) (iEnumA X.K ta) := by
  refine ⟨fun pins s σ H R I h => ?_⟩
  refine Call_ (ld_blt I hg hm boot_enumerate (PyProof.Rows.callWith_type1 (thn (ha.run pos pins s σ H _ I h) fun us s1 ⟨vs, H1, I1, r1, q1⟩ => ?_) hs rfl))
  obtain ⟨a, xs, ex, hq⟩ := q1
  subst ex
  cases r1 with
  | cons r rr =>
    cases rr
    cases r
    have fp : ∀ b ∈ [s1.heap.objs.size + 1, s1.heap.objs.size], FpOk X pins H1 b := fun b hb => by
      have e' : b = s1.heap.objs.size + 1 ∨ b = s1.heap.objs.size := by simpa using hb
      have hle : s1.heap.objs.size ≤ b := by
        rcases e' with z | z
        · rw [z]; exact Nat.le_add_right _ _
        · rw [z]; exact Nat.le_refl _
      exact I1.fpOk hle (I1.hok.fresh hle)
    rcases hq with ⟨hq, q⟩ | ⟨hq, q⟩
    · obtain ⟨its, rv, p', hz⟩ := I1.list hq
      refine call_enumerate_list p'.isList fun h' he hit hsz hk => wpAny_pyIter_enum he ?_
      have I2 : Inv X pins σ H1 { s1 with heap := h' } := I1.kept (t' := s1.toks) hk
      exact ⟨s1.heap.objs.size + 1, [s1.heap.objs.size + 1, s1.heap.objs.size], _, _, H1, rfl, I2, turn_enum a (s1.heap.objs.size + 1) s1.heap.objs.size, ⟨⟨.none, he⟩, hit, Nat.succ_ne_self _⟩, fp, q⟩
    · obtain ⟨its, rv, p', hz⟩ := I1.tuple hq
      have hal : a < s1.heap.objs.size := by obtain ⟨o, ho, _⟩ := p'; exact Heap.lt_size ho
      refine call_enumT p' fun h' he hit hsz hk => wpAny_pyIter_enum he ?_
      have I2 : Inv X pins σ H1 { s1 with heap := h' } := I1.kept (t' := s1.toks) hk
      exact ⟨s1.heap.objs.size + 1, [s1.heap.objs.size + 1, s1.heap.objs.size], _, _, H1, rfl, I2, turn_enumT a (s1.heap.objs.size + 1) s1.heap.objs.size (Nat.ne_of_lt hal) (Nat.ne_of_gt (Nat.lt_succ_of_lt hal)), ⟨⟨.none, he⟩, hit, Nat.succ_ne_self _⟩, fp, q⟩
end Mp

set_option maxRecDepth 100000
set_option maxHeartbeats 2000000
/-! Mp4: what is walked, comprehensions, calls. -/
namespace Mp
open PySem L2
/-- an iterator over data -/
inductive ItF (K : PySem.W.Frag) (H : Hp) (θ : Th) : List D → It → Prop
  | lst {a : Addr} {ds : List D} (r : VR K H θ (.list ds) (.ref a)) : ItF K H θ ds (Itl K a)
  | tup {a : Addr} {ds : List D} (r : VR K H θ (.tuple ds) (.ref a)) : ItF K H θ ds (Itt K a)
  | rng {lo : Int} {n : Nat} : ItF K H θ (rngD lo n) (Itr lo n)
  | enl {a : Addr} {ds : List D} (r : VR K H θ (.list ds) (.ref a)) : ItF K H θ (enumD 0 ds) (Ite K a)
  | ent {a : Addr} {ds : List D} (r : VR K H θ (.tuple ds) (.ref a)) : ItF K H θ (enumD 0 ds) (IteT K a)
section
variable {K : PySem.W.Frag} {H H' : Hp} {θ θ' : Th} {xs : List D} {J : It}
theorem ItF.step (h : ItF K H θ xs J) (st : Step θ H θ' H') : ItF K H' θ' xs J := by
  cases h with
  | lst r => exact .lst (r.step st)
  | tup r => exact .tup (r.step st)
  | rng => exact .rng
  | enl r => exact .enl (r.step st)
  | ent r => exact .ent (r.step st)
theorem ItF.hold {p : Addr} {o : HO} (hp : H p = none) (h : ItF K H θ xs J) : ItF K (upd H p o) (p :: θ.1, θ.2) xs J := by
  cases h with
  | lst r => exact .lst (r.hold hp)
  | tup r => exact .tup (r.hold hp)
  | rng => exact .rng
  | enl r => exact .enl (r.hold hp)
  | ent r => exact .ent (r.hold hp)
theorem ItF.wr {p : Addr} {o : HO} {z : List Addr} {t : List (Option (Addr × List Addr))} (h : ItF K H (p :: z, t) xs J) : ItF K (upd H p o) (p :: z, t) xs J := by
  cases h with
  | lst r => exact .lst r.wr
  | tup r => exact .tup r.wr
  | rng => exact .rng
  | enl r => exact .enl r.wr
  | ent r => exact .ent r.wr
theorem enumD_len : ∀ (ds : List D) (n : Nat), (enumD n ds).length = ds.length
  | [], _ => rfl
  | x :: r, n => by
    show (_ :: enumD (n + 1) r).length = _
    rw [List.length_cons, enumD_len r, List.length_cons]
theorem enumD_get : ∀ (ds : List D) (n i : Nat) (d : D), (enumD n ds)[i]? = some d → ∃ x, ds[i]? = some x ∧ d = .tuple [.int ((n + i : Nat) : Int), x]
  | [], _, _, _, h => by cases h
  | x :: r, n, 0, d, h => by
    have h : some (PyData.tuple [.int (n : Int), x]) = some d := h
    cases h
    exact ⟨x, rfl, rfl⟩
  | x :: r, n, i + 1, d, h => by
    have h : (enumD (n + 1) r)[i]? = some d := h
    obtain ⟨y, e1, e2⟩ := enumD_get r (n + 1) i d h
    refine ⟨y, e1, ?_⟩
    rw [e2]
    congr 4
    omega
theorem rngD_len : ∀ (n : Nat) (lo : Int), (rngD lo n).length = n
  | 0, _ => rfl
  | n + 1, lo => by
    show (PyData.int lo :: rngD (lo + 1) n).length = n + 1
    rw [List.length_cons, rngD_len n]
theorem rngD_get : ∀ (n : Nat) (lo : Int) (i : Nat) (d : D), (rngD lo n)[i]? = some d → d = .int (lo + i)
  | 0, _, _, _, h => by cases h
  | n + 1, lo, 0, d, h => by
    have h : some (PyData.int lo) = some d := h
    cases h
    simp
  | n + 1, lo, i + 1, d, h => by
    have h : (rngD (lo + 1) n)[i]? = some d := h
    rw [rngD_get n _ i d h]
    congr 1
    omega
theorem ItF.go (h : ItF K H θ xs J) {i : Nat} (hi : i < xs.length) : J.go i H := by
  cases h with
  | lst r =>
    obtain ⟨a, vs, e, ha, na, rs⟩ := r.lstOf
    cases e
    obtain ⟨v, ev, _⟩ := rs.get (List.getElem?_eq_getElem hi)
    exact ⟨vs, v, SqL.of ha, ev⟩
  | tup r =>
    obtain ⟨a, vs, e, ha, rs⟩ := r.tupOf
    cases e
    obtain ⟨v, ev, _⟩ := rs.get (List.getElem?_eq_getElem hi)
    exact ⟨vs, v, ha, ev⟩
  | rng => rw [rngD_len] at hi; exact hi
  | enl r =>
    rw [enumD_len] at hi
    obtain ⟨a, vs, e, ha, na, rs⟩ := r.lstOf
    cases e
    obtain ⟨v, ev, _⟩ := rs.get (List.getElem?_eq_getElem hi)
    exact ⟨vs, v, SqL.of ha, ev⟩
  | ent r =>
    rw [enumD_len] at hi
    obtain ⟨a, vs, e, ha, rs⟩ := r.tupOf
    cases e
    obtain ⟨v, ev, _⟩ := rs.get (List.getElem?_eq_getElem hi)
    exact ⟨vs, v, ha, ev⟩
theorem ItF.st (h : ItF K H θ xs J) : J.stop xs.length H := by
  cases h with
  | lst r =>
    obtain ⟨a, vs, e, ha, na, rs⟩ := r.lstOf
    cases e
    exact ⟨vs, SqL.of ha, by rw [← rs.length]; exact Nat.le_refl _⟩
  | tup r =>
    obtain ⟨a, vs, e, ha, rs⟩ := r.tupOf
    cases e
    exact ⟨vs, ha, by rw [← rs.length]; exact Nat.le_refl _⟩
  | @rng lo n => show n ≤ (rngD lo n).length; rw [rngD_len]; exact Nat.le_refl _
  | enl r =>
    obtain ⟨a, vs, e, ha, na, rs⟩ := r.lstOf
    cases e
    exact ⟨vs, SqL.of ha, by rw [← rs.length, enumD_len]; exact Nat.le_refl _⟩
  | ent r =>
    obtain ⟨a, vs, e, ha, rs⟩ := r.tupOf
    cases e
    exact ⟨vs, ha, by rw [← rs.length, enumD_len]⟩
theorem ItF.yl {T : List (Addr × Str)} {μ : Store} (h : ItF K H θ xs J) (sr : SRel K T H θ μ) {i : Nat} {x : V} {H2 : Hp} {d : D} (hd : xs[i]? = some d) (hy : J.yld i H x H2) : Step θ H θ H2 ∧ SRel K T H2 θ μ ∧ VR K H2 θ d x := by
  cases h with
  | lst r =>
    obtain ⟨a, vs, e, ha, na, rs⟩ := r.lstOf
    cases e
    obtain ⟨e1, hy⟩ := hy
    obtain ⟨v, ev, rv⟩ := rs.get hd
    have := hy vs (SqL.of ha)
    rw [ev] at this
    cases this
    subst e1
    exact ⟨.refl, sr, rv⟩
  | tup r =>
    obtain ⟨a, vs, e, ha, rs⟩ := r.tupOf
    cases e
    obtain ⟨e1, hy⟩ := hy
    obtain ⟨v, ev, rv⟩ := rs.get hd
    have := hy vs ha
    rw [ev] at this
    cases this
    subst e1
    exact ⟨.refl, sr, rv⟩
  | rng =>
    obtain ⟨e1, e2⟩ := hy
    rw [e2, rngD_get _ _ _ _ hd]
    subst e1
    exact ⟨.refl, sr, .int _⟩
  | enl r =>
    obtain ⟨a, vs, e, ha, na, rs⟩ := r.lstOf
    cases e
    obtain ⟨A, y, rfl, hA, rfl, hy⟩ := hy
    obtain ⟨z, ez, rfl⟩ := enumD_get _ _ _ _ hd
    obtain ⟨v, ev, rv⟩ := rs.get ez
    have := hy vs (SqL.of ha)
    rw [ev] at this
    have e := Option.some.inj this
    subst e
    have st := Step.new sr hA (.tup [.int (i : Nat), v])
    refine ⟨st, sr.new hA _, .tup upd_same (sr.fresh hA) (.cons ?_ (.cons (rv.step st) .nil))⟩
    rw [Nat.zero_add]
    exact .int _
  | ent r =>
    obtain ⟨a, vs, e, ha, rs⟩ := r.tupOf
    cases e
    obtain ⟨A, y, rfl, hA, rfl, hy⟩ := hy
    obtain ⟨z, ez, rfl⟩ := enumD_get _ _ _ _ hd
    obtain ⟨v, ev, rv⟩ := rs.get ez
    have := hy vs ha
    rw [ev] at this
    have e := Option.some.inj this
    subst e
    have st := Step.new sr hA (.tup [.int (i : Nat), v])
    refine ⟨st, sr.new hA _, .tup upd_same (sr.fresh hA) (.cons ?_ (.cons (rv.step st) .nil))⟩
    rw [Nat.zero_add]
    exact .int _
end
section
variable (K : PySem.W.Frag) (T : List (Addr × Str)) (Ce : Nat → Addr) (G : Nat → Option D) (call : Nat → List Val → M D) (W : WX)
def RI (it : MI) : TI := RM K T Ce W (ItF K) (evi G call it)
/-- what a def promises: the run's value -/
def spC (f : Nat) (n : Nat) : Sp := fun vs H Q E => ∃ args μ θ, args.length = n ∧ VRvs K H θ args vs ∧ SRel K T H θ μ ∧ Wp K T Ce (VR K) (fun c d _ H => E c d H) [] θ H (call f args μ) Q
end
section
variable {X : Cx} {T : List (Addr × Str)} {Ce : Nat → Addr} {G : Nat → Option D} {call : Nat → List Val → M D} {W : WX}
theorem pi_seqD {tg l : Expr} {a : ME} (ha : PE X l ((RE X.K T Ce G call W) a)) : PI X tg l ((RI X.K T Ce G call W) (.seq a)) := by
  refine ⟨fun pins s σ H R I ⟨en, μ, θ, er, sr, h⟩ => ?_⟩
  have h : Wp X.K T Ce (ItF X.K) W σ θ H (M.bind (ev G call a en) (fun x => M.of (seqOf x)) μ) R := h
  have key : (RE X.K T Ce G call W) a σ H (fun x H1 => (∃ p, x = .ref p ∧ (∃ xs, SqL X.K H1 p xs) ∧ R (Itl X.K p) H1) ∨ ∃ p, x = .ref p ∧ (∃ xs, SqT X.K H1 p xs) ∧ R (Itt X.K p) H1) := by
    refine RM.bind (m := ev G call a) (k := fun en x => M.of (seqOf x)) er sr h fun x H1 θ1 d1 μ1 er1 st1 sr1 r1 h1 => ?_
    obtain ⟨d, e, h3⟩ := Wp.of h1 sr1
    cases d1 with
    | list xs =>
      cases e
      obtain ⟨p, vs, rfl, hp, np, rs⟩ := r1.lstOf
      exact .inl ⟨p, rfl, ⟨vs, SqL.of hp⟩, h3 θ1 H1 _ .refl sr1 (.lst r1)⟩
    | tuple xs =>
      cases e
      obtain ⟨p, vs, rfl, hp, rs⟩ := r1.tupOf
      exact .inr ⟨p, rfl, ⟨vs, hp⟩, h3 θ1 H1 _ .refl sr1 (.tup r1)⟩
    | _ => cases e
  refine thn (ha.run pins s σ H _ I key) fun v s1 ⟨x, H1, I1, r1, q1⟩ => ?_
  rcases q1 with ⟨p, rfl, ⟨xs, hq⟩, q⟩ | ⟨p, rfl, ⟨xs, hq⟩, q⟩
  · cases r1
    obtain ⟨its, rv, pl, hz⟩ := I1.list hq
    refine wpAny_pyIter_list pl.isList ?_
    refine ⟨s1.heap.objs.size, [s1.heap.objs.size], _, _, H1, rfl, I1.kept (t' := s1.toks) fun b o e => Heap.get?_push_of_some _ e, turn_list p _, ⟨_, Heap.get?_push_size _ rfl, rfl, rfl⟩, fun b hb => ?_, q⟩
    have e : b = s1.heap.objs.size := by simpa using hb
    subst e
    exact I1.fpOk (Nat.le_refl _) (I1.hok.fresh (Nat.le_refl _))
  · cases r1
    obtain ⟨its, rv, pl, hz⟩ := I1.tuple hq
    refine wpAny_pyIter_tuple (show s1.heap.IsTuple p its.toArray from pl) ?_
    refine ⟨s1.heap.objs.size, [s1.heap.objs.size], _, _, H1, rfl, I1.kept (t' := s1.toks) fun b o e => Heap.get?_push_of_some _ e, turn_tuple p _, ⟨_, Heap.get?_push_size _ rfl, rfl, rfl⟩, fun b hb => ?_, q⟩
    have e : b = s1.heap.objs.size := by simpa using hb
    subst e
    exact I1.fpOk (Nat.le_refl _) (I1.hok.fresh (Nat.le_refl _))
theorem rng_ok {i : Int} (h : rngOk i = true) : -(2 ^ 62) ≤ i ∧ i < 2 ^ 62 := by
  have h := Bool.and_eq_true_iff.mp h
  exact ⟨of_decide_eq_true h.1, of_decide_eq_true h.2⟩
theorem pi_rng1D {tg y : Expr} {a : ME} {p pos : Pos} (hg : Gl X "range") (hm : X.mg "range" = none) (hs : notStar y = true) (ha : PE X y ((RE X.K T Ce G call W) a)) : PI X tg (.Call (.Name "range" p) [y] [] pos) ((RI X.K T Ce G call W) (.rng1 a)) := by
  refine ⟨fun pins s σ H R I ⟨en, μ, θ, er, sr, h⟩ => (pi_range1 (tg := tg) hg hm (pa_cons ha pa_nil (star_cons hs)) (star_cons hs)).run pins s σ H R I ?_⟩
  refine RM.bind (m := ev G call a) (k := fun en x => M.of ((intOf x).bind fun n => if rngOk n = true then some (rngD 0 n.toNat) else none)) er sr h fun x H1 θ1 d1 μ1 er1 st1 sr1 r1 h1 => ?_
  obtain ⟨d, e, h3⟩ := Wp.of h1 sr1
  cases r1 with
  | int n =>
    have e : (if rngOk n = true then some (rngD 0 n.toNat) else none) = some d := e
    split at e
    · rename_i hc
      cases e
      exact ⟨n, rfl, (rng_ok hc).1, (rng_ok hc).2, h3 θ1 H1 _ .refl sr1 .rng⟩
    · cases e
  | _ => cases e
theorem pi_rng2D {tg y z : Expr} {a b : ME} {p pos : Pos} (hg : Gl X "range") (hm : X.mg "range" = none) (hs : notStar y = true) (hs2 : notStar z = true) (ha : PE X y ((RE X.K T Ce G call W) a)) (hb : PE X z ((RE X.K T Ce G call W) b)) : PI X tg (.Call (.Name "range" p) [y, z] [] pos) ((RI X.K T Ce G call W) (.rng2 a b)) := by
  refine ⟨fun pins s σ H R I ⟨en, μ, θ, er, sr, h⟩ => (pi_range2 (tg := tg) hg hm (pa_cons ha (pa_cons hb pa_nil (star_cons hs2)) (star_cons hs)) (by rw [star_cons hs, star_cons hs2]; rfl) (star_cons hs2)).run pins s σ H R I ?_⟩
  refine RM.bind (m := ev G call a) (k := fun en x => (ev G call b en).bind fun y => M.of ((intOf x).bind fun i => (intOf y).bind fun j => if rngOk i && rngOk j then some (rngD i (j - i).toNat) else none)) er sr h fun x H1 θ1 d1 μ1 er1 st1 sr1 r1 h1 => ?_
  refine RM.bind (m := ev G call b) (k := fun en y => M.of ((intOf d1).bind fun i => (intOf y).bind fun j => if rngOk i && rngOk j then some (rngD i (j - i).toNat) else none)) er1 sr1 h1 fun y H2 θ2 d2 μ2 er2 st2 sr2 r2 h2 => ?_
  obtain ⟨d, e, h3⟩ := Wp.of h2 sr2
  cases r1 with
  | int i =>
    cases r2 with
    | int j =>
      have e : (if (rngOk i && rngOk j) = true then some (rngD i (j - i).toNat) else none) = some d := e
      split at e
      · rename_i hc
        have hc := Bool.and_eq_true_iff.mp hc
        cases e
        exact ⟨i, j, rfl, ⟨(rng_ok hc.1).1, (rng_ok hc.1).2, (rng_ok hc.2).1, (rng_ok hc.2).2⟩, h3 θ2 H2 _ .refl sr2 .rng⟩
      · cases e
    | _ => cases e
  | _ => cases e

theorem pi_enumD {y : Expr} {a : ME} {p pos tpos : Pos} {elts : List Expr} {kk : Nat} (hg : Gl X "enumerate") (hm : X.mg "enumerate" = none) (hs : notStar y = true) (ha : PE X y ((RE X.K T Ce G call W) a)) : PI X (.Tuple elts kk tpos) (.Call (.Name "enumerate" p) [y] [] pos) ((RI X.K T Ce G call W) (.enum a)) := by
  refine ⟨fun pins s σ H R I ⟨en, μ, θ, er, sr, h⟩ => (pi_enumA hg hm (pa_cons ha pa_nil (star_cons hs)) (by rw [star_cons hs]; rfl)).run pins s σ H R I ?_⟩
  refine RM.bind (m := ev G call a) (k := fun en x => M.of ((seqOf x).map (enumD 0))) er sr h fun x H1 θ1 d1 μ1 er1 st1 sr1 r1 h1 => ?_
  obtain ⟨d, e, h3⟩ := Wp.of h1 sr1
  cases d1 with
  | list xs =>
    cases e
    obtain ⟨p, vs, rfl, hp, np, rs⟩ := r1.lstOf
    exact ⟨p, vs, rfl, .inl ⟨SqL.of hp, h3 θ1 H1 _ .refl sr1 (.enl r1)⟩⟩
  | tuple xs =>
    cases e
    obtain ⟨p, vs, rfl, hp, rs⟩ := r1.tupOf
    exact ⟨p, vs, rfl, .inr ⟨hp, h3 θ1 H1 _ .refl sr1 (.ent r1)⟩⟩
  | _ => cases e

/-! ### calls -/
theorem pe_callD {f : Nat} {mes : MEs} {x : Str} {p pos : Pos} {e : Expr} {es : List Expr} {k : Nat} {a : Addr} {fd : FuncData} {ps : List Str} (F : FnOk X.prog X.w X.K X.mg X.base (L2N.CX X.prog X.w) k a fd ps (spC X.K T Ce call f ps.length)) (hr : Room k X.A) (hg : Gl X x) (hm : X.mg x = some (.ref a))
    (hk : PySem.W.keepIn X.K (.ref a) = true) (hb : Binds X.K fd ps []) (tk : L2N.Takes X W) (hd : (x == ("__debug__" : Str)) = false) (hs : (e :: es).all notStar = true) (hl : ∀ en μ vs μ', evv G call mes en μ = some (.ok vs μ') → vs.length = ps.length) (h : PA X (e :: es) (RAv X.K T Ce G call W mes)) :
    PE X (.Call (.Name x p) (e :: es) [] pos) ((RE X.K T Ce G call W) (.call f mes)) := by
  rw [List.all_cons, Bool.and_eq_true] at hs
  refine PE.imp (pe_callS F hr hg hm hk hb (fun σ => L2N.passAt tk σ) h hd (star_cons hs.1) (star_none hs.2)) fun σ H Q ⟨en, μ, θ, er, sr, h⟩ => ?_
  refine ⟨en, μ, θ, er, sr, (Wp.bindE (rel := VRvs X.K) (k := fun vs => call f vs) h).mono fun xs H1 ⟨θ1, d1, μ1, e, st1, sr1, r1, h1⟩ => ?_⟩
  refine ⟨d1, μ1, θ1, hl _ _ _ _ e, r1, sr1, ?_⟩
  cases q : call f d1 μ1 with
  | none => rw [q] at h1; exact h1
  | some r =>
    rw [q] at h1
    cases r with
    | ok a μ' => exact h1
    | exc c μ' => exact h1
theorem evv_len : ∀ (mes : MEs) {en : En} {μ μ' : Store} {xs : List Val}, evv G call mes en μ = some (.ok xs μ') → xs.length = mes.len
  | .nil, en, μ, μ', xs, h => by cases h; rfl
  | .cons e es, en, μ, μ', xs, h => by
    by_cases hc : isCv e = true
    · cases e with
      | cv i =>
        have h : M.bind (M.of (lookC en i)) (fun k => (evv G call es en).bind fun xs => M.pure (.c k :: xs)) μ = some (.ok xs μ') := h
        cases q : lookC en i with
        | none => rw [q] at h; cases h
        | some k =>
          rw [q] at h
          have h : M.bind (evv G call es en) (fun xs => M.pure (.c k :: xs)) μ = some (.ok xs μ') := h
          unfold M.bind at h
          cases q2 : evv G call es en μ with
          | none => simp only [q2] at h; cases h
          | some r2 =>
            simp only [q2] at h
            cases r2 with
            | exc c μ2 => cases h
            | ok b μ2 =>
              cases h
              rw [List.length_cons, evv_len es q2]
              rfl
      | nl =>
        have h : M.bind (evv G call es en) (fun xs => M.pure (.c μ.length :: xs)) (μ ++ [.lst []]) = some (.ok xs μ') := h
        unfold M.bind at h
        cases q2 : evv G call es en (μ ++ [.lst []]) with
        | none => simp only [q2] at h; cases h
        | some r2 =>
          simp only [q2] at h
          cases r2 with
          | exc c μ2 => cases h
          | ok b μ2 =>
            cases h
            rw [List.length_cons, evv_len es q2]
            rfl
      | _ => cases hc
    · rw [evv_cons (by simpa using hc)] at h
      unfold M.bind at h
      cases q : ev G call e en μ with
      | none => rw [q] at h; cases h
      | some r =>
        rw [q] at h
        cases r with
        | exc c μ1 => cases h
        | ok a μ1 =>
          cases q2 : evv G call es en μ1 with
          | none => simp only [q2] at h; cases h
          | some r2 =>
            simp only [q2] at h
            cases r2 with
            | exc c μ2 => cases h
            | ok b μ2 =>
              cases h
              rw [List.length_cons, evv_len es q2]
              rfl

/-! ### comprehensions -/
/-- the block's context takes nothing -/
def WF : WX := fun _ _ _ _ => False
/-- targets -/
def RG (K : PySem.W.Frag) (t : Tg) : TG := fun v σ H Q => ∃ d en θ en', VR K H θ d v ∧ ERel K H θ en σ ∧ setT t d en = some en' ∧ ∀ σ', ERel K H θ en' σ' → L2.wipe σ' t.slots = L2.wipe σ t.slots → Q σ' H
theorem wipe_at (σ : St) (j : Nat) : ∀ is : List Nat, (L2.wipe σ is)[j]? = if j ∈ is then (σ[j]?).map (fun _ => none) else σ[j]?
  | [] => by rw [if_neg (by simp)]; rfl
  | v :: vs => by
    have ih := wipe_at σ j vs
    show ((L2.wipe σ vs).set v none)[j]? = _
    by_cases hv : v = j
    · subst hv
      rw [if_pos List.mem_cons_self]
      by_cases hl : v < σ.length
      · rw [List.getElem?_set_self (by rw [wipe_length]; exact hl), List.getElem?_eq_getElem hl]
        rfl
      · rw [List.getElem?_eq_none (by simpa [wipe_length] using hl), List.getElem?_eq_none (by simpa using hl)]
        rfl
    · rw [List.getElem?_set_ne hv, ih]
      by_cases hm : j ∈ vs
      · rw [if_pos hm, if_pos (List.mem_cons_of_mem _ hm)]
      · rw [if_neg hm, if_neg]
        intro z
        rcases List.mem_cons.mp z with z | z
        · exact hv z.symm
        · exact hm z
theorem wipe_wipe (σ : St) (is : List Nat) : L2.wipe (L2.wipe σ is) is = L2.wipe σ is := by
  apply List.ext_getElem?
  intro j
  rw [wipe_at, wipe_at]
  split
  · cases σ[j]? <;> rfl
  · rfl
theorem wipe_set {σ : St} {i : Nat} {is : List Nat} {v : V} (h : i ∈ is) : L2.wipe (σ.set i (some v)) is = L2.wipe σ is := by
  apply List.ext_getElem?
  intro j
  rw [wipe_at, wipe_at]
  by_cases hj : i = j
  · subst hj
    rw [if_pos h, if_pos h]
    by_cases hl : i < σ.length
    · rw [List.getElem?_set_self hl, List.getElem?_eq_getElem hl]
      rfl
    · rw [List.getElem?_eq_none (by simpa using hl), List.getElem?_eq_none (by simpa using hl)]
  · rw [List.getElem?_set_ne hj]
theorem wipeE_at (en : En) (j : Nat) : ∀ is : List Nat, (wipeE en is)[j]? = if j ∈ is then (en[j]?).map (fun _ => none) else en[j]?
  | [] => by rw [if_neg (by simp)]; rfl
  | v :: vs => by
    have ih := wipeE_at en j vs
    have hlen : ∀ is : List Nat, (wipeE en is).length = en.length := fun is => by
      induction is with
      | nil => rfl
      | cons a as ih => show ((wipeE en as).set a none).length = _; rw [List.length_set, ih]
    show ((wipeE en vs).set v none)[j]? = _
    by_cases hv : v = j
    · subst hv
      rw [if_pos List.mem_cons_self]
      by_cases hl : v < en.length
      · rw [List.getElem?_set_self (by rw [hlen]; exact hl), List.getElem?_eq_getElem hl]
        rfl
      · rw [List.getElem?_eq_none (by simpa [hlen] using hl), List.getElem?_eq_none (by simpa using hl)]
        rfl
    · rw [List.getElem?_set_ne hv, ih]
      by_cases hm : j ∈ vs
      · rw [if_pos hm, if_pos (List.mem_cons_of_mem _ hm)]
      · rw [if_neg hm, if_neg]
        intro z
        rcases List.mem_cons.mp z with z | z
        · exact hv z.symm
        · exact hm z
theorem wipeE_len (en : En) : ∀ is : List Nat, (wipeE en is).length = en.length
  | [] => rfl
  | a :: as => by show ((wipeE en as).set a none).length = _; rw [List.length_set, wipeE_len en as]
theorem ERel.wipes {K : PySem.W.Frag} {H : Hp} {θ : Th} {en : En} {σ : St} (h : ERel K H θ en σ) (is : List Nat) : ERel K H θ (wipeE en is) (L2.wipe σ is) := by
  refine ⟨by rw [wipeE_len, wipe_length, h.len], fun j x e => ?_⟩
  rw [wipeE_at] at e
  rw [wipe_at]
  split at e
  · cases q : en[j]? with
    | none => rw [q] at e; cases e
    | some y => rw [q] at e; cases e
  · rename_i hn
    rw [if_neg hn]
    exact h.at_ j x e
theorem RG.name {K : PySem.W.Frag} {i : Nat} {v : V} {σ : St} {H : Hp} {Q : St → Hp → Prop} (h : RG K (.n i) v σ H Q) : gName i v σ H Q := by
  obtain ⟨d, en, θ, en', rd, er, e, q⟩ := h
  have e : some (en.set i (some (.d d))) = some en' := e
  cases e
  refine q _ (er.set i (x := .d d) rd) (wipe_set ?_)
  show i ∈ [i]
  exact List.mem_cons_self
theorem atT_n {α : Type} (i : Nat) (en : En) (f : En → M α) : atT (.n i) en f = fun x => (f (en.set i (some (.d x)))).nox := by
  funext x
  show (match some (((en.set i none)).set i (some (.d x))) with
    | some en' => (f en').nox
    | none => fun _ => none) = _
  rw [List.set_set]
/-- the items of a comprehension as a run with tests -/
theorem nox_ok {α : Type} {m : M α} {μ : Store} {r : Res α} (h : m.nox μ = some r) : ∃ a μ', r = .ok a μ' ∧ m μ = some (.ok a μ') := by
  unfold M.nox at h
  cases q : m μ with
  | none => rw [q] at h; cases h
  | some s =>
    rw [q] at h
    cases s with
    | ok a μ' => cases h; exact ⟨a, μ', rfl, rfl⟩
    | exc c μ' => cases h
theorem mapM_if (t : Tg) (en : En) (f : En → M D) : ∀ xs, mapM' (atT t en f) xs = mapIf (atT t en fun _ => M.pure true) (atT t en f) xs
  | [] => rfl
  | x :: r => by
    have e := mapM_if t en f r
    show M.bind (atT t en f x) (fun y => (mapM' (atT t en f) r).bind fun ys => M.pure (y :: ys)) = M.bind (atT t en (fun _ => M.pure true) x) fun b => match b with
      | true => M.bind (atT t en f x) (fun y => (mapIf (atT t en fun _ => M.pure true) (atT t en f) r).bind fun ys => M.pure (y :: ys))
      | false => mapIf (atT t en fun _ => M.pure true) (atT t en f) r
    rw [e]
    unfold atT
    cases setT t x (wipeE en t.slots) with
    | none => rfl
    | some en' => rfl
theorem M.assoc {α β γ : Type} (m : M α) (f : α → M β) (g : β → M γ) : M.bind (M.bind m f) g = M.bind m fun x => M.bind (f x) g := by
  funext μ
  unfold M.bind
  cases m μ with
  | none => rfl
  | some r => cases r <;> rfl
theorem Wp.bindH {α β γ δ : Type} {K : PySem.W.Frag} {rel : Hp → Th → α → β → Prop} {rel2 : Hp → Th → γ → δ → Prop} {σ σ' : St} {p : Addr} {z : List Addr} {t : List (Option (Addr × List Addr))} {H H0 : Hp} {θ0 : Th} {μ : Store} {m : M α} {k : α → M γ} {Q : δ → Hp → Prop} (h : Wp K T Ce rel2 W σ θ0 H0 (M.bind m.nox k μ) Q) :
    Wp K T Ce rel WF σ' (p :: z, t) H (m μ) (fun x H1 => ∃ t1 d μ1, Step (p :: z, t) H (p :: z, t1) H1 ∧ SRel K T H1 (p :: z, t1) μ1 ∧ rel H1 (p :: z, t1) d x ∧ Wp K T Ce rel2 W σ θ0 H0 (k d μ1) Q) := by
  unfold M.bind M.nox at h
  cases e : m μ with
  | none => rw [e] at h; exact h
  | some r =>
    rw [e] at h
    cases r with
    | exc c μ' => exact h.elim
    | ok a μ' =>
      intro θ' H' v st sr rl
      obtain ⟨z', t1⟩ := θ'
      obtain rfl : z' = p :: z := st.hd
      exact ⟨t1, a, μ', st, sr, rl, h⟩
theorem lc_coreD {t : Tg} {g : TG} {K : PySem.W.Frag} {xs : List D} {J : It} {σ : St} {H1 : Hp} {en : En} {μ1 : Store} {θ1 : Th} {cc : En → M Bool} {ff : En → M D} {tt : TT} {te : TE} {Q : VK} {W : WX}
    (hg : ∀ v σ H R, RG K t v σ H R → g v σ H R) (ht : ∀ σ H R, RM K T Ce WF relB cc σ H R → tt σ H R) (he : ∀ σ H R, RM K T Ce WF (VR K) ff σ H R → te σ H R)
    (er : ERel K H1 θ1 en σ) (sr : SRel K T H1 θ1 μ1) (hJ : ItF K H1 θ1 xs J) (hl : xs.length ≤ 1000000)
    (h : Wp K T Ce (VR K) W σ θ1 H1 (M.bind (mapIf (atT t en cc) (atT t en ff) xs) (fun ys => M.pure (PyData.list ys)) μ1) Q) (D0 : Addr) (hD : H1 D0 = none) :
    ∃ Wv : Nat → Nat → Hp → Prop, (∃ m, Wv 0 m (upd H1 D0 (.lst []))) ∧ ∀ i' m H, Wv i' m H →
      (J.stop i' H ∧ Q (.ref D0) H) ∨ (J.go i' H ∧ ∃ Nx : Hp → Prop, (∀ H', Nx H' → ∃ m', m' < m ∧ Wv (i' + 1) m' H') ∧ ∀ x H', J.yld i' H x H' → g x (L2.wipe σ t.slots) H' fun σ2 H2 => L2.wipe σ2 t.slots = L2.wipe σ t.slots ∧ tt σ2 H2 fun b H3 =>
        if b = true then te σ2 H3 fun y H4 => ∃ acc, H4 D0 = some (.lst acc) ∧ acc.length < sizeLine ∧ Nx (upd H4 D0 (.lst (acc ++ [y]))) else Nx H3) := by
  obtain ⟨z, t0⟩ := θ1
  -- between two turns
  let C := atT t en cc
  let F := atT t en ff
  let Rest := fun (k : Nat) (H : Hp) => ∃ (t : List (Option (Addr × List Addr))) (μ : Store) (acc : List V) (ys : List D), Step (z, t0) H1 (z, t) H ∧ SRel K T H (D0 :: z, t) μ ∧ H D0 = some (.lst acc) ∧ VRs K H (D0 :: z, t) ys acc ∧ ys.length ≤ k ∧ k ≤ xs.length ∧ ERel K H (D0 :: z, t) en σ ∧ ItF K H (D0 :: z, t) xs J ∧
    Wp K T Ce (VR K) W σ (z, t0) H1 (M.bind (mapIf C F (xs.drop k)) (fun zs => M.pure (PyData.list (ys ++ zs))) μ) Q
  have inn : ∀ {t : List (Option (Addr × List Addr))} {t' : List (Option (Addr × List Addr))} {H H' : Hp}, Step (D0 :: z, t) H (D0 :: z, t') H' → Step (z, t) H (z, t') H' := fun s => ⟨rfl, s.len, s.p1, s.p0, s.p2, s.keep, s.dom⟩
  refine ⟨fun k m H => m = xs.length - k ∧ Rest k H, ⟨xs.length, rfl, ?_⟩, ?_⟩
  · have st := Step.new sr hD (.lst [])
    exact ⟨t0, μ1, [], [], st, sr.hold hD, upd_same, .nil, Nat.le_refl _, Nat.zero_le _, er.hold hD, hJ.hold hD, h⟩
  · rintro k m H ⟨rfl, tq, μ, acc, ys, stp0, srh0, eD0, rys0, hy, hk, erh0, hJh0, hw⟩
    by_cases hlt : k < xs.length
    · refine .inr ⟨hJh0.go hlt, Rest (k + 1), fun H' hr => ⟨xs.length - (k + 1), by omega, rfl, hr⟩, fun x H' hyl => ?_⟩
      obtain ⟨sty, srh, rx⟩ := hJh0.yl srh0 (List.getElem?_eq_getElem hlt) hyl
      have stp : Step (z, t0) H1 (z, tq) H' := stp0.trans (inn sty)
      have eD : H' D0 = some (.lst acc) := sty.keep D0 _ eD0 (fun _ q => by cases q) (srh0.hz D0 List.mem_cons_self).2
      have rys := rys0.step sty
      have erh := erh0.step sty
      have hJh := hJh0.step sty
      have ed : xs.drop k = xs[k] :: xs.drop (k + 1) := List.drop_eq_getElem_cons hlt
      rw [ed] at hw
      have hw : Wp K T Ce (VR K) W σ (z, t0) H1 (M.bind (M.bind (C xs[k]) fun b => match b with
        | true => (F xs[k]).bind fun y => (mapIf C F (xs.drop (k + 1))).bind fun ys => M.pure (y :: ys)
        | false => mapIf C F (xs.drop (k + 1))) (fun zs => M.pure (PyData.list (ys ++ zs))) μ) Q := hw
      rw [M.assoc] at hw
      have eC : C xs[k] = (match setT t xs[k] (wipeE en t.slots) with
        | some en' => (cc en').nox
        | none => fun _ => none) := rfl
      have eF : F xs[k] = (match setT t xs[k] (wipeE en t.slots) with
        | some en' => (ff en').nox
        | none => fun _ => none) := rfl
      cases es : setT t xs[k] (wipeE en t.slots) with
      | none =>
        rw [es] at eC
        rw [eC] at hw
        exact hw.elim
      | some en' =>
      rw [es] at eC eF
      simp only at eC eF
      rw [eC, eF] at hw
      refine hg _ _ _ _ ⟨xs[k], wipeE en t.slots, (D0 :: z, tq), en', rx, erh.wipes t.slots, es, fun σ2 er2 hwp => ⟨by rw [hwp, wipe_wipe], ?_⟩⟩
      refine ht _ _ _ ⟨_, μ, _, er2, srh, (Wp.bindH (rel := relB) (σ' := _) hw).mono fun b H2 ⟨t2, b', μ2, st2, sr2, eb, hw2⟩ => ?_⟩
      obtain rfl : b' = b := eb
      have stp2 : Step (z, t0) H1 (z, t2) H2 := stp.trans (inn st2)
      have eD2 : H2 D0 = some (.lst acc) := st2.keep D0 _ eD (fun _ q => by cases q) (srh.hz D0 List.mem_cons_self).2
      cases b' with
      | false =>
        exact ⟨t2, μ2, acc, ys, stp2, sr2, eD2, rys.step st2, by omega, hlt, erh.step st2, hJh.step st2, hw2⟩
      | true =>
        show te _ H2 _
        have hw2 : Wp K T Ce (VR K) W σ (z, t0) H1 (M.bind (M.bind (ff en').nox fun y => (mapIf C F (xs.drop (k + 1))).bind fun ys => M.pure (y :: ys)) (fun zs => M.pure (PyData.list (ys ++ zs))) μ2) Q := hw2
        rw [M.assoc] at hw2
        refine he _ _ _ ⟨_, μ2, _, er2.step st2, sr2, (Wp.bindH (rel := VR K) (σ' := _) hw2).mono fun y H3 ⟨t3, d, μ3, st3, sr3, rd, hw3⟩ => ?_⟩
        have eD3 : H3 D0 = some (.lst acc) := st3.keep D0 _ eD2 (fun _ q => by cases q) (sr2.hz D0 List.mem_cons_self).2
        have rys3 := (rys.step st2).step st3
        refine ⟨acc, eD3, ?_, ?_⟩
        · rw [← rys.length]
          exact line6' (by omega)
        · have stp3 : Step (z, t0) H1 (z, t3) H3 := stp2.trans (inn st3)
          have stp4 : Step (z, t0) H1 (z, t3) (upd H3 D0 (.lst (acc ++ [y]))) :=
            ⟨rfl, stp3.len, stp3.p1, stp3.p0, stp3.p2, fun b o e n hb => by rw [upd_ne (ne_of_none e hD)]; exact stp3.keep b o e n hb, fun b e => stp3.dom b (Nil.upd2 (fun _ z => by cases z) e)⟩
          refine ⟨t3, μ3, acc ++ [y], ys ++ [d], stp4, sr3.wr eD3, upd_same, (rys3.append (.cons rd .nil)).wr, ?_, hlt, ?_, ((hJh.step st2).step st3).wr, ?_⟩
          · rw [List.length_append, List.length_singleton]; omega
          · have e3 := (erh.step st2).step st3
            refine ⟨e3.len, fun j w ej => ?_⟩
            obtain ⟨v, e1, r⟩ := e3.at_ j w ej
            refine ⟨v, e1, ?_⟩
            cases w with
            | d w => exact VR.wr r
            | c w => exact r
          · -- the rest of the run, at the heap with the list one longer
            rw [M.assoc] at hw3
            have e4 : (fun zs : List D => M.pure (PyData.list ((ys ++ [d]) ++ zs))) = fun zs => M.bind (M.pure (d :: zs)) fun zs => M.pure (PyData.list (ys ++ zs)) := by
              funext zs
              show M.pure (PyData.list ((ys ++ [d]) ++ zs)) = M.pure (PyData.list (ys ++ (d :: zs)))
              rw [List.append_assoc]
              rfl
            rw [e4]
            exact hw3
    · have ek : k = xs.length := by omega
      subst ek
      refine .inl ⟨hJh0.st, ?_⟩
      rw [List.drop_length] at hw
      have hw : Wp K T Ce (VR K) W σ (z, t0) H1 (M.pure (PyData.list (ys ++ [])) μ) Q := hw
      rw [List.append_nil] at hw
      have outD : Out D0 (z, tq) := ⟨fun hm => (sr.hz D0 hm).1 (.of hD), (srh0.hz D0 List.mem_cons_self).2⟩
      exact hw (z, tq) H _ stp0 srh0.let (.lst eD0 outD rys0.let)
end
end Mp

set_option maxRecDepth 100000
set_option maxHeartbeats 4000000
/-! Mp5: which expression of the text an expression of ours stands for; every one is run as told. -/
namespace Mp
open PySem L2
structure Nm where
  f : Nat → Option (Str × Nat)
  g : Nat → Option Str
  x : Nat → Option Str
  b : List Str
/-- a scope, and whether told may stand here -/
abbrev Sx := Scope × Bool
def noArgs : Arguments → Bool
  | ⟨[], [], none, [], [], none, []⟩ => true
  | _ => false
def isGl (sc : Sx) (x : Str) : Bool := decide (sc.1.names.lookup x = some .globalImplicit) && !(x == ("__debug__" : Str))
def isVar (N : List Str) (sc : Sx) (i : Nat) (x : Str) : Bool := decide (N[i]? = some x) && (decide (sc.1.names.lookup x = some .local) || decide (sc.1.names.lookup x = some .cell) || decide (sc.1.names.lookup x = some .free)) && !(x == ("__debug__" : Str)) && !(x == ("__classdict__" : Str))
def ckC : D → Const → Bool
  | .int i, .int j => decide (i = j)
  | .bool i, .bool j => decide (i = j)
  | .str i, .str j => decide (i = j)
  | .none, .none => true
  | _, _ => false
def notSlice : Expr → Bool
  | .Slice .. => false
  | _ => true
theorem plainIx {e : Expr} (h : notSlice e = true) : PlainIx e := by
  intro o i
  cases e <;> first | rfl | cases h
def notIte : ME → Bool
  | .ite .. => false
  | .stk => false
  | _ => true
def notSet : Expr → Bool
  | .Set .. => false
  | _ => true
def isTupE : Expr → Bool
  | .Tuple .. => true
  | _ => false
/-- the target's names -/
def ckNames (N : List Str) (P : Str → Bool) : List Nat → List Expr → Bool
  | [], [] => true
  | i :: is, .Name x _ :: xs => decide (N[i]? = some x) && P x && ckNames N P is xs
  | _, _ => false
mutual
def ckT (N : List Str) (P : Str → Bool) : Tg → Expr → Bool
  | .n i, .Name x _ => decide (N[i]? = some x) && P x
  | .t is, .Tuple xs _ _ => ckNames N P is xs
  | .tt ts, .Tuple xs _ _ => ckTs N P ts xs
  | _, _ => false
def ckTs (N : List Str) (P : Str → Bool) : Tgs → List Expr → Bool
  | .nil, [] => true
  | .cons t ts, x :: xs => notStar x && ckT N P t x && ckTs N P ts xs
  | _, _ => false
end
def ownOf (N : List Str) (is : List Nat) : List (Str × Nat) := is.map fun i => (N.getD i "", i)
mutual
def ckE (nm : Nm) (N : List Str) : Sx → ME → Expr → Bool
  | sc, .var i, .Name x _ => isVar N sc i x
  | sc, .cst d, .Constant c _ _ => ckC d c
  | sc, .glb g, .Name x _ => decide (nm.g g = some x) && isGl sc x
  | sc, .bin op a b, .BinOp l o r _ => decide (o = opOf op) && ckE nm N sc a l && ckE nm N sc b r
  | sc, .neg a, .UnaryOp .USub x _ => ckE nm N sc a x
  | sc, .cmp op a b, .Compare l [o] [r] _ => decide (o = copOf op) && !(behindInMarks o r) && ckE nm N sc a l && ckE nm N sc b r
  | sc, .chain o1 o2 a b c, .Compare l [p1, p2] [m, r] _ => decide (p1 = copOf o1) && decide (p2 = copOf o2) && !(decide (p2 = .In)) && !(decide (p2 = .NotIn)) && ckE nm N sc a l && ckE nm N sc b m && ckE nm N sc c r
  | sc, .and a b, .BoolOp .And (x :: y :: rest) pos => notIte a && notIte b && ckE nm N sc a x && (match rest with
    | [] => ckE nm N sc b y
    | _ :: _ => ckE nm N sc b (.BoolOp .And (y :: rest) pos))
  | sc, .or a b, .BoolOp .Or (x :: y :: rest) pos => notIte a && notIte b && ckE nm N sc a x && (match rest with
    | [] => ckE nm N sc b y
    | _ :: _ => ckE nm N sc b (.BoolOp .Or (y :: rest) pos))
  | sc, .not a, .UnaryOp .Not x _ => notIte a && ckE nm N sc a x
  | sc, .ite c a b, .IfExp t x y _ => notIte c && ckE nm N sc c t && ckE nm N sc a x && ckE nm N sc b y
  | sc, .tup es, .Tuple xs _ _ => decide (es.len ≤ 1000000) && ckEs nm N sc es xs
  | sc, .lst es, .List xs _ => decide (es.len ≤ 1000000) && ckEs nm N sc es xs
  | sc, .idx a b, .Subscript x y _ => notSlice y && ckE nm N sc a x && ckE nm N sc b y
  | sc, .slice a lo hi, .Subscript x (.Slice l h none _) _ => ckE nm N sc a x && ckO nm N sc lo l && ckO nm N sc hi h
  | sc, .call f es, .Call (.Name x _) (y :: ys) [] _ => decide (nm.f f = some (x, es.len)) && isGl sc x && ckEv nm N sc es (y :: ys)
  | sc, .blt b es, .Call (.Name x _) (y :: ys) [] _ => decide (x = bltName b) && decide (x ∈ nm.b) && isGl sc x && ckEs nm N sc es (y :: ys)
  | sc, .isi a t, .Call (.Name x _) [y, .Name z _] [] _ => decide (x = ("isinstance" : Str)) && decide (z = (tyName t : Str)) && decide (x ∈ nm.b) && decide (z ∈ nm.b) && isGl sc x && isGl sc z && notStar y && ckE nm N sc a y
  | sc, .comp i it e, .ListComp elt [⟨.Name x _, iter, [], as⟩] scope _ => decide (as = 0) && decide (N[i]? = some x) && blkC N sc.1 scope [(x, i)] && decide ((relS scope sc.1).names.lookup x = some .local) && notSet iter && ckI nm N sc false it iter && ckE nm N (relS scope sc.1, false) e elt
  | sc, .compIf i it c e, .ListComp elt [⟨.Name x _, iter, [t], as⟩] scope _ => decide (as = 0) && decide (N[i]? = some x) && blkC N sc.1 scope [(x, i)] && decide ((relS scope sc.1).names.lookup x = some .local) && notSet iter && ckI nm N sc false it iter && notIte c && ckE nm N (relS scope sc.1, false) c t && ckE nm N (relS scope sc.1, false) e elt
  | sc, .idxC i e, .Subscript (.Name x _) y _ => isVar N sc i x && notSlice y && ckE nm N sc e y
  | sc, .told e, .Call (.Name x _) [.Lambda params body scope _] [] _ => decide (x = ("_law_told" : Str)) && sc.2 && isGl sc x && noArgs params && LamX.lamSB sc.1 scope && ckE nm N (scope, false) e body
  | sc, .stk, _ => true
  | sc, .compT t it e, .ListComp elt [⟨tg, iter, [], as⟩] scope _ => decide (as = 0) && blkC N sc.1 scope (ownOf N t.slots) && ckT N (fun x => decide ((relS scope sc.1).names.lookup x = some .local)) t tg && notSet iter && ckI nm N sc (isTupE tg) it iter && ckE nm N (relS scope sc.1, false) e elt
  | sc, .compIfT t it c e, .ListComp elt [⟨tg, iter, [u], as⟩] scope _ => decide (as = 0) && blkC N sc.1 scope (ownOf N t.slots) && ckT N (fun x => decide ((relS scope sc.1).names.lookup x = some .local)) t tg && notSet iter && ckI nm N sc (isTupE tg) it iter && notIte c && ckE nm N (relS scope sc.1, false) c u && ckE nm N (relS scope sc.1, false) e elt
  | sc, .cmpC op i e, .Compare (.Name x _) [o] [r] _ => decide (o = copOf op) && !(behindInMarks o r) && isVar N sc i x && ckE nm N sc e r
  | sc, .inC neg e i, .Compare l [o] [.Name x _] _ => decide (o = copOf (inOp neg)) && isVar N sc i x && ckE nm N sc e l
  | sc, .binC .add i e, .BinOp (.Name x _) .Add r _ => isVar N sc i x && ckE nm N sc e r
  | sc, .sliceC i lo hi, .Subscript (.Name x _) (.Slice l h none _) _ => isVar N sc i x && ckO nm N sc lo l && ckO nm N sc hi h
  | sc, .bltC b i, .Call (.Name x _) [.Name y _] [] _ => bltCOk b && decide (x = bltName b) && decide (x ∈ nm.b) && isGl sc x && isVar N sc i y
  | _, _, _ => false
def ckEs (nm : Nm) (N : List Str) : Sx → MEs → List Expr → Bool
  | sc, .nil, [] => true
  | sc, .cons e es, x :: xs => notStar x && ckE nm N sc e x && ckEs nm N sc es xs
  | _, _, _ => false
def ckEv (nm : Nm) (N : List Str) : Sx → MEs → List Expr → Bool
  | sc, .nil, [] => true
  | sc, .cons (.cv i) es, .Name x _ :: xs => isVar N sc i x && ckEv nm N sc es xs
  | sc, .cons .nl es, .List [] _ :: xs => ckEv nm N sc es xs
  | sc, .cons e es, x :: xs => notStar x && !isCv e && ckE nm N sc e x && ckEv nm N sc es xs
  | _, _, _ => false
def ckO (nm : Nm) (N : List Str) : Sx → MO → Option Expr → Bool
  | sc, .none, none => true
  | sc, .some e, some x => ckE nm N sc e x
  | _, _, _ => false
def ckI (nm : Nm) (N : List Str) : Sx → Bool → MI → Expr → Bool
  | sc, _, .seq e, x => ckE nm N sc e x
  | sc, _, .rng1 e, .Call (.Name x _) [y] [] _ => decide (x = ("range" : Str)) && decide (x ∈ nm.b) && isGl sc x && notStar y && ckE nm N sc e y
  | sc, _, .rng2 a b, .Call (.Name x _) [y, z] [] _ => decide (x = ("range" : Str)) && decide (x ∈ nm.b) && isGl sc x && notStar y && notStar z && ckE nm N sc a y && ckE nm N sc b z
  | sc, tg, .enum e, .Call (.Name x _) [y] [] _ => tg && decide (x = ("enumerate" : Str)) && decide (x ∈ nm.b) && isGl sc x && notStar y && ckE nm N sc e y
  | _, _, _, _ => false
end
/-! the targets are stored as told -/
section
variable {X : Cx} {N : List Str} {P : Str → Bool}
theorem each_cons {e : Expr} {es : List Expr} {env : Env} (h : notStar e = true) : assignEach (e :: es) env = (false, assign e env) :: assignEach es env := by
  cases e <;> first | rfl | cases h
def RGn (K : PySem.W.Frag) (S : List Nat) (is : List Nat) : TGs := fun vs σ H Q => ∃ ds en θ, VRs K H θ ds vs ∧ ERel K H θ en σ ∧ ds.length = is.length ∧ ∀ σ', ERel K H θ ((is.zip ds).foldl (fun e p => e.set p.1 (some (.d p.2))) en) σ' → L2.wipe σ' S = L2.wipe σ S → Q σ' H
theorem names_ok (hN : X.N = N) (nd : X.N.Nodup) (hp : ∀ x, P x = true → L2.Loc X.env.scope x ∧ (X.fn x = true ∨ X.env.scope.names.lookup x = some .local)) {S : List Nat} : ∀ {is : List Nat} {xs : List Expr}, (∀ i ∈ is, i ∈ S) → ckNames N P is xs = true →
    (assignEach xs X.env).length = xs.length ∧ (assignEach xs X.env).findIdx? (·.1) = none ∧ is.length = xs.length ∧ PGs X xs (RGn X.K S is)
  | [], [], _, _ => ⟨rfl, rfl, rfl, ⟨fun pins s σ H vs us Q I r ⟨ds, en, θ, rd, er, hl, h⟩ => by
      cases ds with
      | nil => cases rd; exact pgs_nil.run pins s σ H _ us Q I r ⟨rfl, h _ er rfl⟩
      | cons _ _ => cases hl⟩⟩
  | [], _ :: _, _, h => by cases h
  | _ :: _, [], _, h => by cases h
  | i :: is, x :: xs, hS, h => by
    cases x with
    | Name x p =>
      have h : (decide (N[i]? = some x) && P x && ckNames N P is xs) = true := h
      simp only [Bool.and_eq_true, decide_eq_true_eq] at h
      obtain ⟨h1, h2, h3, h4⟩ := names_ok hN nd hp (S := S) (fun i hi => hS i (List.mem_cons_of_mem _ hi)) h.2
      obtain ⟨p1, p2⟩ := hp x h.1.2
      refine ⟨by show (assignEach xs X.env).length + 1 = _; rw [h1]; rfl, ?_, by simp [h3], ⟨fun pins s σ H vs us Q I r ⟨ds, en, θ, rd, er, hl, hq⟩ => ?_⟩⟩
      · show List.findIdx? (·.1) ((false, assign (.Name x p) X.env) :: assignEach xs X.env) = none
        rw [List.findIdx?_cons]
        simp [h2]
      · cases ds with
        | nil => cases hl
        | cons d ds =>
          cases rd with
          | @cons _ v _ vs rd rds =>
            refine (pgs_cons (pg_name (i := i) (pos := p) nd (by rw [hN]; exact h.1.1) p1 p2) h4).run pins s σ H _ us Q I r ⟨_, _, rfl, ?_⟩
            refine ⟨ds, en.set i (some (.d d)), θ, rds, er.set i (x := .d d) rd, by simpa using hl, fun σ' er' hw => hq σ' er' ?_⟩
            rw [hw, wipe_set (hS i List.mem_cons_self)]
    | _ => cases h
def RGs (K : PySem.W.Frag) (S : List Nat) (ts : Tgs) : TGs := fun vs σ H Q => ∃ ds en θ en', VRs K H θ ds vs ∧ ERel K H θ en σ ∧ setTs ts ds en = some en' ∧ ∀ σ', ERel K H θ en' σ' → L2.wipe σ' S = L2.wipe σ S → Q σ' H
theorem wipe_sub {σ σ' : St} {S S' : List Nat} (h : ∀ i ∈ S, i ∈ S') (e : L2.wipe σ S = L2.wipe σ' S) : L2.wipe σ S' = L2.wipe σ' S' := by
  apply List.ext_getElem?
  intro j
  have ej := congrArg (·[j]?) e
  simp only [wipe_at] at ej
  rw [wipe_at, wipe_at]
  by_cases hj : j ∈ S
  · rw [if_pos (h j hj), if_pos (h j hj)]
    rw [if_pos hj, if_pos hj] at ej
    exact ej
  · rw [if_neg hj, if_neg hj] at ej
    rw [ej]
theorem setTs_len : ∀ {ts : Tgs} {ds : List D} {en en' : En} {xs : List Expr}, ckTs N P ts xs = true → setTs ts ds en = some en' → ds.length = xs.length
  | .nil, [], en, en', [], _, _ => rfl
  | .nil, _ :: _, en, en', xs, _, h => by simp [setTs] at h
  | .nil, [], en, en', _ :: _, h, _ => by cases h
  | .cons t ts, [], en, en', xs, _, h => by simp [setTs] at h
  | .cons t ts, d :: ds, en, en', [], h, _ => by cases h
  | .cons t ts, d :: ds, en, en', x :: xs, h, e => by
    have h : (notStar x && ckT N P t x && ckTs N P ts xs) = true := h
    simp only [Bool.and_eq_true] at h
    have e : (setT t d en).bind (fun en' => setTs ts ds en') = some en' := by rw [← e, setTs]
    cases q : setT t d en with
    | none => rw [q] at e; cases e
    | some en1 =>
      rw [q] at e
      rw [List.length_cons, List.length_cons, setTs_len h.2 e]
mutual
theorem tgt_ok (hN : X.N = N) (nd : X.N.Nodup) (calm : X.calm = true) (hp : ∀ x, P x = true → L2.Loc X.env.scope x ∧ (X.fn x = true ∨ X.env.scope.names.lookup x = some .local)) : ∀ {t : Tg} {tg : Expr}, ckT N P t tg = true → PG X tg (RG X.K t)
  | .n i, tg, h => by
    cases tg with
    | Name x p =>
      have h : (decide (N[i]? = some x) && P x) = true := h
      rw [Bool.and_eq_true, decide_eq_true_eq] at h
      obtain ⟨p1, p2⟩ := hp x h.2
      exact ⟨fun pins s σ H v u Q I r q => (pg_name (i := i) (pos := p) nd (by rw [hN]; exact h.1) p1 p2).run pins s σ H v u Q I r q.name⟩
    | _ => cases h
  | .t is, tg, h => by
    cases tg with
    | Tuple xs kk p =>
      obtain ⟨h1, h2, h3, h4⟩ := names_ok hN nd hp (S := is) (fun _ z => z) (show ckNames N P is xs = true from h)
      refine ⟨fun pins s σ H v u Q I r ⟨d, en, θ, en', rd, er, e, q⟩ => (pg_tup (n := xs.length) calm h4 h1 h2).run pins s σ H v u Q I r ?_⟩
      cases d with
      | tuple ds =>
        have e : (if ds.length = is.length then some ((is.zip ds).foldl (fun e p => e.set p.1 (some (.d p.2))) en) else none) = some en' := by rw [← e, setT]
        split at e
        · rename_i hl
          cases e
          obtain ⟨a, vs, rfl, ha, rs⟩ := rd.tupOf
          exact ⟨a, vs, rfl, ha, by rw [← rs.length, hl, h3], ds, en, θ, rs, er, hl, q⟩
        · cases e
      | _ => simp [setT] at e
    | _ => cases h
  | .tt ts, tg, h => by
    cases tg with
    | Tuple xs kk p =>
      have h : ckTs N P ts xs = true := h
      obtain ⟨h1, h2, h4⟩ := tgts_ok hN nd calm hp (S := ts.slots) (fun _ z => z) h
      refine ⟨fun pins s σ H v u Q I r ⟨d, en, θ, en', rd, er, e, q⟩ => (pg_tup (n := xs.length) calm h4 h1 h2).run pins s σ H v u Q I r ?_⟩
      cases d with
      | tuple ds =>
        have e : setTs ts ds en = some en' := by rw [← e, setT]
        obtain ⟨a, vs, rfl, ha, rs⟩ := rd.tupOf
        exact ⟨a, vs, rfl, ha, by rw [← rs.length, setTs_len h e], ds, en, θ, en', rs, er, e, q⟩
      | _ => simp [setT] at e
    | _ => cases h
theorem tgts_ok (hN : X.N = N) (nd : X.N.Nodup) (calm : X.calm = true) (hp : ∀ x, P x = true → L2.Loc X.env.scope x ∧ (X.fn x = true ∨ X.env.scope.names.lookup x = some .local)) {S : List Nat} : ∀ {ts : Tgs} {xs : List Expr}, (∀ i ∈ ts.slots, i ∈ S) → ckTs N P ts xs = true →
    (assignEach xs X.env).length = xs.length ∧ (assignEach xs X.env).findIdx? (·.1) = none ∧ PGs X xs (RGs X.K S ts)
  | .nil, xs, _, h => by
    cases xs with
    | nil => exact ⟨rfl, rfl, ⟨fun pins s σ H vs us Q I r ⟨ds, en, θ, en', rd, er, e, q⟩ => by
        cases ds with
        | nil =>
          cases rd
          have e : some en = some en' := by rw [← e, setTs]
          cases e
          exact pgs_nil.run pins s σ H _ us Q I r ⟨rfl, q _ er rfl⟩
        | cons _ _ => simp [setTs] at e⟩⟩
    | cons _ _ => cases h
  | .cons t ts, xs, hS, h => by
    cases xs with
    | nil => cases h
    | cons x xs =>
      have h : (notStar x && ckT N P t x && ckTs N P ts xs) = true := h
      simp only [Bool.and_eq_true] at h
      have hS1 : ∀ i ∈ t.slots, i ∈ S := fun i hi => hS i (by show i ∈ t.slots ++ ts.slots; exact List.mem_append_left _ hi)
      obtain ⟨h1, h2, h4⟩ := tgts_ok hN nd calm hp (S := S) (fun i hi => hS i (by show i ∈ t.slots ++ ts.slots; exact List.mem_append_right _ hi)) h.2
      have ht := tgt_ok hN nd calm hp h.1.2
      refine ⟨by rw [each_cons h.1.1, List.length_cons, h1]; rfl, ?_, ⟨fun pins s σ H vs us Q I r ⟨ds, en, θ, en', rd, er, e, q⟩ => ?_⟩⟩
      · rw [each_cons h.1.1, List.findIdx?_cons]
        simp [h2]
      · cases ds with
        | nil => simp [setTs] at e
        | cons d ds =>
          have e : (setT t d en).bind (fun en' => setTs ts ds en') = some en' := by rw [← e, setTs]
          cases q1 : setT t d en with
          | none => rw [q1] at e; cases e
          | some en1 =>
            rw [q1] at e
            cases rd with
            | @cons _ v _ vs rd rds =>
              refine (pgs_cons ht h4 (by rw [each_cons h.1.1]; rfl)).run pins s σ H _ us Q I r ⟨_, _, rfl, ?_⟩
              refine ⟨d, en, θ, en1, rd, er, q1, fun σ1 er1 w1 => ⟨ds, en1, θ, en', rds, er1, e, fun σ' er' w2 => q σ' er' ?_⟩⟩
              rw [w2]
              exact wipe_sub hS1 w1
end
end
end Mp

set_option maxRecDepth 100000
set_option maxHeartbeats 4000000
/-! Mp6: every expression is run as told. -/
namespace Mp
open PySem L2
/-- what the module's names stand for -/
structure Md (P : Program) (w : World) (K : PySem.W.Frag) (mg : Str → Option Value) (base : Heap) (T : List (Addr × Str)) (Ce : Nat → Addr) (G : Nat → Option D) (call : Nat → List Val → M D) (nm : Nm) (k : Nat) : Prop where
  fn : ∀ (f : Nat) (x : Str) (n : Nat), nm.f f = some (x, n) → ∃ (a : Addr) (fd : FuncData) (ps : List Str), ps.length = n ∧ mg x = some (.ref a) ∧ PySem.W.keepIn K (.ref a) = true ∧ Binds K fd ps [] ∧ FnOk P w K mg base (L2N.CX P w) k a fd ps (spC K T Ce call f ps.length)
  gl : ∀ (g : Nat) (x : Str), nm.g g = some x → ∃ u v, mg x = some u ∧ RelV v u ∧ ∀ d, G g = some d → ∀ H θ, VR K H θ d v
  bl : ∀ x ∈ nm.b, mg x = none
/-- the context of a lambda's body -/
def lamCxN (X : Cx) (A : Around) (outer : List Env) (s : Shared) (H : Hp) (E : XK) (scope : Scope) (f c' : Addr) : Cx :=
  (LamX.lamCx X A outer s H E scope f c').wish (fun e s' => wpAny (model X.prog X.w) (A.deeper (LamX.lamEnv X scope s.heap.objs.size f c')) (leaving (LamX.lamEnv X scope s.heap.objs.size f c') e) (fun _ s'' => L2N.CX X.prog X.w outer H s E e s'') (fun e' s'' => L2N.CX X.prog X.w outer H s E e' s'') s')
/-- what told does here -/
def ToldRule (T : List (Addr × Str)) (Ce : Nat → Addr) (G : Nat → Option D) (call : Nat → List Val → M D) (k : Nat) (X : Cx) (W : WX) : Prop :=
  ∀ (me : ME) (params : Arguments) (body : Expr) (scope : Scope) (p lpos pos : Pos), Gl X "_law_told" → noArgs params = true → LamX.lamSB X.env.scope scope = true →
    (∀ (A : Around) (outer : List Env) (s : Shared) (H : Hp) (E : XK) (f c' : Addr), Room k (A.deeper (LamX.lamEnv X scope s.heap.objs.size f c')) → PE (lamCxN X A outer s H E scope f c') body (RE X.K T Ce G call (fun c d _ H => E c d H) me)) →
    PE X (.Call (.Name "_law_told" p) [.Lambda params body scope lpos] [] pos) (RE X.K T Ce G call W (.told me))
structure Cok (T : List (Addr × Str)) (Ce : Nat → Addr) (G : Nat → Option D) (call : Nat → List Val → M D) (nm : Nm) (N : List Str) (k : Nat) (X : Cx) (sx : Sx) (W : WX) : Prop where
  n : X.N = N
  sc : X.env.scope = sx.1
  nd : X.N.Nodup
  calm : X.calm = true
  tk : L2N.Takes X W
  room : Room k X.A
  md : Md X.prog X.w X.K X.mg X.base T Ce G call nm k
  td : sx.2 = true → ToldRule T Ce G call k X W
section
variable {T : List (Addr × Str)} {Ce : Nat → Addr} {G : Nat → Option D} {call : Nat → List Val → M D} {nm : Nm} {N : List Str} {k : Nat}
theorem Cok.units65 {X : Cx} {sc : Sx} {W : WX} (c : Cok T Ce G call nm N k X sc W) : X.A.units + 65 < cLine := by have := c.room.un; omega
theorem gl_ok {X : Cx} {sc : Sx} {W : WX} (c : Cok T Ce G call nm N k X sc W) {x : Str} (h : isGl sc x = true) : Gl X x ∧ (x == ("__debug__" : Str)) = false := by
  unfold isGl at h
  rw [Bool.and_eq_true, decide_eq_true_eq, Bool.not_eq_true'] at h
  exact ⟨by show X.env.scope.names.lookup x = _; rw [c.sc]; exact h.1, h.2⟩
theorem var_ok {X : Cx} {sc : Sx} {W : WX} (c : Cok T Ce G call nm N k X sc W) {i : Nat} {x : Str} (h : isVar N sc i x = true) : X.N[i]? = some x ∧ Vis X.env.scope x ∧ (x == ("__debug__" : Str)) = false ∧ (x == ("__classdict__" : Str)) = false := by
  unfold isVar at h
  simp only [Bool.and_eq_true, Bool.or_eq_true, decide_eq_true_eq, Bool.not_eq_true'] at h
  obtain ⟨⟨⟨h1, h2⟩, h3⟩, h4⟩ := h
  refine ⟨by rw [c.n]; exact h1, ?_, h3, h4⟩
  unfold Vis
  rw [c.sc]
  rcases h2 with (z | z) | z
  · exact .inl z
  · exact .inr (.inl z)
  · exact .inr (.inr z)
theorem takesF {X : Cx} : L2N.Takes X WF := fun _ _ x => by
  obtain ⟨_, _, _, _, _, _, _, _, _, _, _, _, _, _, _, _, z⟩ := x
  exact z.elim
theorem Cok.blk {X : Cx} {sc : Sx} {W : WX} (c : Cok T Ce G call nm N k X sc W) (s : Shared) (H : Hp) (C : Addr) (cl : List (Str × Addr)) (fp : List Addr) (scope : Scope) : Cok T Ce G call nm N k (X.blk s H scope (compEnvC scope cl C X.env) fp) (relS scope sc.1, false) WF :=
  ⟨c.n, by show relS scope X.env.scope = _; rw [c.sc], c.nd, c.calm, takesF, c.room, c.md, fun z => Bool.noConfusion z⟩
theorem Cok.lam {X : Cx} {sc : Sx} {W : WX} (c : Cok T Ce G call nm N k X sc W) {A : Around} {outer : List Env} {s : Shared} {H : Hp} {E : XK} {scope : Scope} {f c' : Addr} (hr : Room k (A.deeper (LamX.lamEnv X scope s.heap.objs.size f c'))) :
    Cok T Ce G call nm N k (lamCxN X A outer s H E scope f c') (scope, false) (fun c d _ H => E c d H) :=
  ⟨c.n, rfl, c.nd, rfl, L2N.takes_of rfl rfl rfl rfl, hr, c.md, fun z => Bool.noConfusion z⟩
theorem fold_ok {e : Expr} (h : notSet e = true) (env : Env) (x : Value) : foldedSetIterable e env x = pure x := by
  cases e <;> first | rfl | cases h
theorem compTRd {t : Tg} {it : MI} {a : ME} {K : PySem.W.Frag} {W : WX} {σ : St} {H : Hp} {Q : VK} {g : TG} (hg : ∀ v σ H R, RG K t v σ H R → g v σ H R) (h : RE K T Ce G call W (.compT t it a) σ H Q) : tLc (RI K T Ce G call W it) g tYes (RE K T Ce G call WF a) t.slots σ H Q := by
  obtain ⟨en, μ, θ, er, sr, h⟩ := h
  refine RM.bind (m := evi G call it) (rel := ItF K) (k := fun en xs => (M.of (lenOk xs)).bind fun xs => (mapM' (atT t en (ev G call a)) xs).bind fun ys => M.pure (PyData.list ys)) er sr h fun J H1 θ1 xs μ1 er1 st1 sr1 hJ h1 => ?_
  obtain ⟨xs', e, h2⟩ := Wp.ofB h1
  unfold lenOk at e
  split at e
  · rename_i hl
    cases e
    intro D0 hD
    rw [mapM_if] at h2
    exact lc_coreD (t := t) (g := g) (cc := fun _ => M.pure true) (ff := ev G call a) hg (fun σ H R q => by
      obtain ⟨en, μ, θ, er, sr, h⟩ := q
      exact h θ H true .refl sr rfl) (fun σ H R q => q) er1 sr1 hJ hl h2 D0 hD
  · cases e
theorem compIfTRd {t : Tg} {it : MI} {d a : ME} {K : PySem.W.Frag} {W : WX} {σ : St} {H : Hp} {Q : VK} {g : TG} (hg : ∀ v σ H R, RG K t v σ H R → g v σ H R) (h : RE K T Ce G call W (.compIfT t it d a) σ H Q) : tLc (RI K T Ce G call W it) g (RT K T Ce G call WF d) (RE K T Ce G call WF a) t.slots σ H Q := by
  obtain ⟨en, μ, θ, er, sr, h⟩ := h
  refine RM.bind (m := evi G call it) (rel := ItF K) (k := fun en xs => (M.of (lenOk xs)).bind fun xs => (mapIf (atT t en fun en => (ev G call d en).bind fun z => M.of (boolOf z)) (atT t en (ev G call a)) xs).bind fun ys => M.pure (PyData.list ys)) er sr h fun J H1 θ1 xs μ1 er1 st1 sr1 hJ h1 => ?_
  obtain ⟨xs', e, h2⟩ := Wp.ofB h1
  unfold lenOk at e
  split at e
  · rename_i hl
    cases e
    intro D0 hD
    exact lc_coreD (t := t) (g := g) (cc := fun en => (ev G call d en).bind fun z => M.of (boolOf z)) (ff := ev G call a) hg (fun σ H R q => q) (fun σ H R q => q) er1 sr1 hJ hl h2 D0 hD
  · cases e
theorem compRd {i : Nat} {it : MI} {a : ME} {K : PySem.W.Frag} {W : WX} {σ : St} {H : Hp} {Q : VK} (h : RE K T Ce G call W (.comp i it a) σ H Q) : tLc (RI K T Ce G call W it) (gName i) tYes (RE K T Ce G call WF a) [i] σ H Q := by
  refine compTRd (t := .n i) (fun v σ H R q => q.name) ?_
  obtain ⟨en, μ, θ, er, sr, h⟩ := h
  refine ⟨en, μ, θ, er, sr, ?_⟩
  show Wp K T Ce (VR K) W σ θ H ((evi G call it en).bind (fun xs => (M.of (lenOk xs)).bind fun xs => (mapM' (atT (.n i) en (ev G call a)) xs).bind fun ys => M.pure (PyData.list ys)) μ) Q
  rw [atT_n]
  exact h
theorem compIfRd {i : Nat} {it : MI} {d a : ME} {K : PySem.W.Frag} {W : WX} {σ : St} {H : Hp} {Q : VK} (h : RE K T Ce G call W (.compIf i it d a) σ H Q) : tLc (RI K T Ce G call W it) (gName i) (RT K T Ce G call WF d) (RE K T Ce G call WF a) [i] σ H Q := by
  refine compIfTRd (t := .n i) (fun v σ H R q => q.name) ?_
  obtain ⟨en, μ, θ, er, sr, h⟩ := h
  refine ⟨en, μ, θ, er, sr, ?_⟩
  show Wp K T Ce (VR K) W σ θ H ((evi G call it en).bind (fun xs => (M.of (lenOk xs)).bind fun xs => (mapIf (atT (.n i) en fun en => (ev G call d en).bind fun z => M.of (boolOf z)) (atT (.n i) en (ev G call a)) xs).bind fun ys => M.pure (PyData.list ys)) μ) Q
  rw [atT_n, atT_n]
  exact h
theorem own_slots (N : List Str) (is : List Nat) : (ownOf N is).map (·.2) = is := by
  unfold ownOf
  rw [List.map_map]
  exact List.map_id _
theorem isTup_of {e : Expr} (h : isTupE e = true) : ∃ elts k p, e = .Tuple elts k p := by
  cases e with
  | Tuple elts k p => exact ⟨elts, k, p, rfl⟩
  | _ => cases h
/-- the targets of a block -/
theorem blk_tgt {X : Cx} {sc : Sx} {W : WX} (c : Cok T Ce G call nm N k X sc W) {scope : Scope} {t : Tg} {tg : Expr} (h : ckT N (fun x => decide ((relS scope sc.1).names.lookup x = some .local)) t tg = true) (s : Shared) (H : Hp) (C : Addr) (cl : List (Str × Addr)) (fp : List Addr) :
    PG (X.blk s H scope (compEnvC scope cl C X.env) fp) tg (RG X.K t) := by
  refine tgt_ok (X := X.blk s H scope (compEnvC scope cl C X.env) fp) (N := N) c.n c.nd c.calm (fun x hx => ?_) h
  have hloc : (X.blk s H scope (compEnvC scope cl C X.env) fp).env.scope.names.lookup x = some .local := by
    show (relS scope X.env.scope).names.lookup x = _
    rw [c.sc]; exact of_decide_eq_true hx
  exact ⟨.inl hloc, .inr hloc⟩
theorem stars : ∀ (es : MEs) {sc : Sx} {xs : List Expr}, ckEs nm N sc es xs = true → xs.all notStar = true
  | .nil, sc, xs, h => by
    cases xs with
    | nil => rfl
    | cons _ _ => cases h
  | .cons e es, sc, xs, h => by
    cases xs with
    | nil => cases h
    | cons x xs =>
      have h : (notStar x && ckE nm N sc e x && ckEs nm N sc es xs) = true := h
      simp only [Bool.and_eq_true] at h
      rw [List.all_cons, h.1.1, stars es h.2]
      rfl
mutual
theorem soundE : ∀ (me : ME) {X : Cx} {sc : Sx} {W : WX} {e : Expr}, Cok T Ce G call nm N k X sc W → ckE nm N sc me e = true → PE X e (RE X.K T Ce G call W me)
  | .var i, X, sc, W, e, c, h => by
    cases e with
    | Name x pos =>
      obtain ⟨h1, h2, h3, h4⟩ := var_ok c (show isVar N sc i x = true from h)
      exact pe_varD h1 h2 h3 h4
    | _ => cases h
  | .cst d, X, sc, W, e, c, h => by
    cases e with
    | Constant cc j pos =>
      have h : ckC d cc = true := h
      cases cc with
      | int i => cases d with
        | int i' => have e : i' = i := of_decide_eq_true h; subst e; exact pe_cstD pe_int fun _ _ _ => .int _
        | _ => cases h
      | bool i => cases d with
        | bool i' => have e : i' = i := of_decide_eq_true h; subst e; exact pe_cstD pe_bl fun _ _ _ => .bl _
        | _ => cases h
      | str i => cases d with
        | str i' => have e : i' = i := of_decide_eq_true h; subst e; exact pe_cstD pe_str fun _ _ _ => .str _
        | _ => cases h
      | none => cases d with
        | none => exact pe_cstD pe_non fun _ _ _ => .non
        | _ => cases h
      | _ => cases d <;> cases h
    | _ => cases h
  | .glb g, X, sc, W, e, c, h => by
    cases e with
    | Name x pos =>
      have h : (decide (nm.g g = some x) && isGl sc x) = true := h
      rw [Bool.and_eq_true, decide_eq_true_eq] at h
      obtain ⟨u, v, h1, h2, h3⟩ := c.md.gl g x h.1
      exact pe_glbD (gl_ok c h.2).1 h1 h2 (gl_ok c h.2).2 h3
    | _ => cases h
  | .bin op a b, X, sc, W, e, c, h => by
    cases e with
    | BinOp l o r pos =>
      have h : (decide (o = opOf op) && ckE nm N sc a l && ckE nm N sc b r) = true := h
      simp only [Bool.and_eq_true, decide_eq_true_eq] at h
      obtain ⟨⟨rfl, h1⟩, h2⟩ := h
      exact pe_binD (soundE a c h1) (soundE b c h2)
    | _ => cases h
  | .neg a, X, sc, W, e, c, h => by
    cases e with
    | UnaryOp op x pos =>
      cases op with
      | USub => exact pe_negD (soundE a c h)
      | _ => cases h
    | _ => cases h
  | .cmp op a b, X, sc, W, e, c, h => by
    cases e with
    | Compare l ops cs pos =>
      rcases ops with _ | ⟨o, _ | ⟨o2, os⟩⟩ <;> rcases cs with _ | ⟨r, _ | ⟨r2, rs⟩⟩ <;> try (cases h; done)
      have h : (decide (o = copOf op) && !(behindInMarks o r) && ckE nm N sc a l && ckE nm N sc b r) = true := h
      simp only [Bool.and_eq_true, decide_eq_true_eq, Bool.not_eq_true'] at h
      obtain ⟨⟨⟨rfl, h0⟩, h1⟩, h2⟩ := h
      exact pe_cmpD (c.units65) h0 (soundE a c h1) (soundE b c h2)
    | _ => cases h
  | .chain o1 o2 a b d, X, sc, W, e, c, h => by
    cases e with
    | Compare l ops cs pos =>
      rcases ops with _ | ⟨p1, _ | ⟨p2, _ | ⟨p3, ps⟩⟩⟩ <;> rcases cs with _ | ⟨m, _ | ⟨r, _ | ⟨r2, rs⟩⟩⟩ <;> try (cases h; done)
      have h : (decide (p1 = copOf o1) && decide (p2 = copOf o2) && !(decide (p2 = .In)) && !(decide (p2 = .NotIn)) && ckE nm N sc a l && ckE nm N sc b m && ckE nm N sc d r) = true := h
      simp only [Bool.and_eq_true, decide_eq_true_eq, Bool.not_eq_true', decide_eq_false_iff_not] at h
      obtain ⟨⟨⟨⟨⟨⟨rfl, rfl⟩, n1⟩, n2⟩, h1⟩, h2⟩, h3⟩ := h
      exact PE.imp (pe_chain (cop_ok (T := T) o1 (c.units65)) (cop_ok (T := T) o2 (c.units65)) (soundE a c h1) (soundE b c h2) (soundE d c h3) (nobehind r n1 n2)) fun σ H Q q => chainRd q
    | _ => cases h
  | .and a b, X, sc, W, e, c, h => by
    cases e with
    | BoolOp op vs pos =>
      cases op with
      | Or => rcases vs with _ | ⟨x, _ | ⟨y, rest⟩⟩ <;> cases h
      | And =>
        rcases vs with _ | ⟨x, _ | ⟨y, rest⟩⟩ <;> try (cases h; done)
        cases rest with
        | nil =>
          have h : (notIte a && notIte b && ckE nm N sc a x && ckE nm N sc b y) = true := h
          simp only [Bool.and_eq_true] at h
          exact pe_andD (soundE a c h.1.2) (pe_one (soundE b c h.2))
        | cons z zs =>
          have h : (notIte a && notIte b && ckE nm N sc a x && ckE nm N sc b (.BoolOp .And (y :: z :: zs) pos)) = true := h
          simp only [Bool.and_eq_true] at h
          exact pe_andD (soundE a c h.1.2) (soundE b c h.2)
    | _ => cases h
  | .or a b, X, sc, W, e, c, h => by
    cases e with
    | BoolOp op vs pos =>
      cases op with
      | And => rcases vs with _ | ⟨x, _ | ⟨y, rest⟩⟩ <;> cases h
      | Or =>
        rcases vs with _ | ⟨x, _ | ⟨y, rest⟩⟩ <;> try (cases h; done)
        cases rest with
        | nil =>
          have h : (notIte a && notIte b && ckE nm N sc a x && ckE nm N sc b y) = true := h
          simp only [Bool.and_eq_true] at h
          exact pe_orD (soundE a c h.1.2) (pe_one (soundE b c h.2))
        | cons z zs =>
          have h : (notIte a && notIte b && ckE nm N sc a x && ckE nm N sc b (.BoolOp .Or (y :: z :: zs) pos)) = true := h
          simp only [Bool.and_eq_true] at h
          exact pe_orD (soundE a c h.1.2) (soundE b c h.2)
    | _ => cases h
  | .not a, X, sc, W, e, c, h => by
    cases e with
    | UnaryOp op x pos =>
      cases op with
      | Not =>
        have h : (notIte a && ckE nm N sc a x) = true := h
        rw [Bool.and_eq_true] at h
        exact pe_notD (soundE a c h.2)
      | _ => cases h
    | _ => cases h
  | .ite d a b, X, sc, W, e, c, h => by
    cases e with
    | IfExp t x y pos =>
      have h : (notIte d && ckE nm N sc d t && ckE nm N sc a x && ckE nm N sc b y) = true := h
      simp only [Bool.and_eq_true] at h
      obtain ⟨⟨⟨h0, h1⟩, h2⟩, h3⟩ := h
      exact pe_iteD (soundT d h0 c h1) (soundE a c h2) (soundE b c h3)
    | _ => cases h
  | .tup es, X, sc, W, e, c, h => by
    cases e with
    | Tuple xs kk pos =>
      have h : (decide (es.len ≤ 1000000) && ckEs nm N sc es xs) = true := h
      rw [Bool.and_eq_true, decide_eq_true_eq] at h
      exact pe_tupD (soundEs es c h.2) h.1
    | _ => cases h
  | .lst es, X, sc, W, e, c, h => by
    cases e with
    | List xs pos =>
      have h : (decide (es.len ≤ 1000000) && ckEs nm N sc es xs) = true := h
      rw [Bool.and_eq_true, decide_eq_true_eq] at h
      exact pe_lstD (soundEs es c h.2) h.1
    | _ => cases h
  | .idx a b, X, sc, W, e, c, h => by
    cases e with
    | Subscript x y pos =>
      have h : (notSlice y && ckE nm N sc a x && ckE nm N sc b y) = true := h
      simp only [Bool.and_eq_true] at h
      exact pe_idxD (plainIx h.1.1) (soundE a c h.1.2) (soundE b c h.2)
    | _ => cases h
  | .slice a lo hi, X, sc, W, e, c, h => by
    cases e with
    | Subscript x y pos =>
      cases y with
      | Slice l u st p2 =>
        cases st with
        | none =>
          have h : (ckE nm N sc a x && ckO nm N sc lo l && ckO nm N sc hi u) = true := h
          simp only [Bool.and_eq_true] at h
          exact pe_sliceD (soundE a c h.1.1) (soundO lo c h.1.2) (soundO hi c h.2)
        | some z => cases h
      | _ => cases h
    | _ => cases h
  | .call f es, X, sc, W, e, c, h => by
    cases e with
    | Call fn args kws pos =>
      cases fn with
      | Name x p =>
        rcases args with _ | ⟨y, ys⟩ <;> rcases kws with _ | ⟨kw, kws⟩ <;> try (cases h; done)
        have h : (decide (nm.f f = some (x, es.len)) && isGl sc x && ckEv nm N sc es (y :: ys)) = true := h
        simp only [Bool.and_eq_true, decide_eq_true_eq] at h
        obtain ⟨⟨h1, h2⟩, h3⟩ := h
        obtain ⟨a, fd, ps, hl, hm, hk, hb, F⟩ := c.md.fn f x _ h1
        obtain ⟨h4, h5⟩ := soundV es c h3
        exact pe_callD F c.room (gl_ok c h2).1 hm hk hb c.tk (gl_ok c h2).2 h4 (fun en μ vs μ' q => by rw [evv_len es q, hl]) h5
      | _ => cases h
    | _ => cases h
  | .blt b es, X, sc, W, e, c, h => by
    cases e with
    | Call fn args kws pos =>
      cases fn with
      | Name x p =>
        rcases args with _ | ⟨y, ys⟩ <;> rcases kws with _ | ⟨kw, kws⟩ <;> try (cases h; done)
        have h : (decide (x = bltName b) && decide (x ∈ nm.b) && isGl sc x && ckEs nm N sc es (y :: ys)) = true := h
        simp only [Bool.and_eq_true, decide_eq_true_eq] at h
        obtain ⟨⟨⟨h1, h2⟩, h3⟩, h4⟩ := h
        exact pe_bltD c.calm h1 (gl_ok c h3).1 (c.md.bl x h2) (stars es h4) (soundEs es c h4)
      | _ => cases h
    | _ => cases h
  | .isi a t, X, sc, W, e, c, h => by
    cases e with
    | Call fn args kws pos =>
      cases fn with
      | Name x p =>
        rcases args with _ | ⟨y, _ | ⟨z, _ | ⟨z2, zs⟩⟩⟩ <;> rcases kws with _ | ⟨kw, kws⟩ <;> try (cases h; done)
        rotate_left
        · cases z <;> cases h
        · cases z <;> cases h
        · cases z <;> cases h
        cases z with
        | Name z p2 =>
          have h : (decide (x = ("isinstance" : Str)) && decide (z = (tyName t : Str)) && decide (x ∈ nm.b) && decide (z ∈ nm.b) && isGl sc x && isGl sc z && notStar y && ckE nm N sc a y) = true := h
          simp only [Bool.and_eq_true, decide_eq_true_eq] at h
          obtain ⟨⟨⟨⟨⟨⟨⟨rfl, rfl⟩, h3⟩, h4⟩, h5⟩, h6⟩, h7⟩, h8⟩ := h
          exact pe_isiD (gl_ok c h5).1 (c.md.bl _ h3) (gl_ok c h6).1 (c.md.bl _ h4) h7 (soundE a c h8)
        | _ => cases h
      | _ => cases h
    | _ => cases h
  | .comp i it a, X, sc, W, e, c, h => by
    cases e with
    | ListComp elt gens scope pos =>
      rcases gens with _ | ⟨⟨tg, iter, ifs, as⟩, _ | ⟨g2, gs⟩⟩
      · cases h
      · cases tg with
        | Name x px =>
          rcases ifs with _ | ⟨t, _ | ⟨t2, ts⟩⟩ <;> try (cases h; done)
          have h : (decide (as = 0) && decide (N[i]? = some x) && blkC N sc.1 scope [(x, i)] && decide ((relS scope sc.1).names.lookup x = some .local) && notSet iter && ckI nm N sc false it iter && ckE nm N (relS scope sc.1, false) a elt) = true := h
          simp only [Bool.and_eq_true, decide_eq_true_eq] at h
          obtain ⟨⟨⟨⟨⟨⟨rfl, h1⟩, h2⟩, h3⟩, h4⟩, h5⟩, h6⟩ := h
          have okB : BlkOk X.N X.env.scope scope [(x, i)] := blkOk_by (by rw [c.n, c.sc]; exact h2)
          have hloc : ∀ (s : Shared) (H : Hp) (C : Addr) (cl : List (Str × Addr)) (fp : List Addr), (X.blk s H scope (compEnvC scope cl C X.env) fp).env.scope.names.lookup x = some .local := fun s H C cl fp => by
            show (relS scope X.env.scope).names.lookup x = _
            rw [c.sc]; exact h3
          exact PE.imp (pe_lc (own := [(x, i)]) (g := gName i) (tt := tYes) c.calm c.nd (soundI it c h5 (fun z => Bool.noConfusion z)) okB
            (fun s H C cl fp => pg_name (i := i) c.nd (by show X.N[i]? = _; rw [c.n]; exact h1) (.inl (hloc s H C cl fp)) (.inr (hloc s H C cl fp)))
            (fun s H C cl fp => pts_nil) (fun s H C cl fp => soundE a (c.blk s H C cl fp scope) h6) (fun x => fold_ok h4 _ _)) fun σ H Q q => compRd q
        | _ => rcases ifs with _ | ⟨t, _ | ⟨t2, ts⟩⟩ <;> cases h
      · cases tg <;> rcases ifs with _ | ⟨t, _ | ⟨t2, ts⟩⟩ <;> cases h
    | _ => cases h
  | .compIf i it d a, X, sc, W, e, c, h => by
    cases e with
    | ListComp elt gens scope pos =>
      rcases gens with _ | ⟨⟨tg, iter, ifs, as⟩, _ | ⟨g2, gs⟩⟩
      · cases h
      · cases tg with
        | Name x px =>
          rcases ifs with _ | ⟨t, _ | ⟨t2, ts⟩⟩ <;> try (cases h; done)
          have h : (decide (as = 0) && decide (N[i]? = some x) && blkC N sc.1 scope [(x, i)] && decide ((relS scope sc.1).names.lookup x = some .local) && notSet iter && ckI nm N sc false it iter && notIte d && ckE nm N (relS scope sc.1, false) d t && ckE nm N (relS scope sc.1, false) a elt) = true := h
          simp only [Bool.and_eq_true, decide_eq_true_eq] at h
          obtain ⟨⟨⟨⟨⟨⟨⟨⟨rfl, h1⟩, h2⟩, h3⟩, h4⟩, h5⟩, h7⟩, h8⟩, h6⟩ := h
          have okB : BlkOk X.N X.env.scope scope [(x, i)] := blkOk_by (by rw [c.n, c.sc]; exact h2)
          have hloc : ∀ (s : Shared) (H : Hp) (C : Addr) (cl : List (Str × Addr)) (fp : List Addr), (X.blk s H scope (compEnvC scope cl C X.env) fp).env.scope.names.lookup x = some .local := fun s H C cl fp => by
            show (relS scope X.env.scope).names.lookup x = _
            rw [c.sc]; exact h3
          exact PE.imp (pe_lc (own := [(x, i)]) (g := gName i) c.calm c.nd (soundI it c h5 (fun z => Bool.noConfusion z)) okB
            (fun s H C cl fp => pg_name (i := i) c.nd (by show X.N[i]? = _; rw [c.n]; exact h1) (.inl (hloc s H C cl fp)) (.inr (hloc s H C cl fp)))
            (fun s H C cl fp => pts_one (soundT d h7 (c.blk s H C cl fp scope) h8)) (fun s H C cl fp => soundE a (c.blk s H C cl fp scope) h6) (fun x => fold_ok h4 _ _)) fun σ H Q q => compIfRd q
        | _ => rcases ifs with _ | ⟨t, _ | ⟨t2, ts⟩⟩ <;> cases h
      · cases tg <;> rcases ifs with _ | ⟨t, _ | ⟨t2, ts⟩⟩ <;> cases h
    | _ => cases h
  | .idxC i a, X, sc, W, e, c, h => by
    cases e with
    | Subscript x y pos =>
      cases x with
      | Name x p =>
        have h : (isVar N sc i x && notSlice y && ckE nm N sc a y) = true := h
        simp only [Bool.and_eq_true] at h
        obtain ⟨h1, h2, h3, h4⟩ := var_ok c h.1.1
        exact pe_idxCD h1 h2 h3 h4 (plainIx h.1.2) (soundE a c h.2)
      | _ => cases h
    | _ => cases h
  | .cv i, X, sc, W, e, c, h => by cases e <;> cases h
  | .nl, X, sc, W, e, c, h => by cases e <;> cases h
  | .comp2 i it j it2 a, X, sc, W, e, c, h => by cases e <;> cases h
  | .comp2If i it j it2 d a, X, sc, W, e, c, h => by cases e <;> cases h
  | .stk, X, sc, W, e, c, h => pe_stkD
  | .compT t it a, X, sc, W, e, c, h => by
    cases e with
    | ListComp elt gens scope pos =>
      rcases gens with _ | ⟨⟨tg, iter, ifs, as⟩, _ | ⟨g2, gs⟩⟩
      · cases h
      · rcases ifs with _ | ⟨t1, _ | ⟨t2, ts⟩⟩ <;> try (cases h; done)
        have h : (decide (as = 0) && blkC N sc.1 scope (ownOf N t.slots) && ckT N (fun x => decide ((relS scope sc.1).names.lookup x = some .local)) t tg && notSet iter && ckI nm N sc (isTupE tg) it iter && ckE nm N (relS scope sc.1, false) a elt) = true := h
        simp only [Bool.and_eq_true, decide_eq_true_eq] at h
        obtain ⟨⟨⟨⟨⟨rfl, h2⟩, h3⟩, h4⟩, h5⟩, h6⟩ := h
        have okB : BlkOk X.N X.env.scope scope (ownOf N t.slots) := blkOk_by (by rw [c.n, c.sc]; exact h2)
        refine PE.imp (pe_lc (own := ownOf N t.slots) (g := RG X.K t) (tt := tYes) (te := RE X.K T Ce G call WF a) c.calm c.nd (soundI it c h5 isTup_of) okB
          (fun s H C cl fp => blk_tgt c h3 s H C cl fp)
          (fun s H C cl fp => pts_nil) (fun s H C cl fp => soundE a (c.blk s H C cl fp scope) h6) (fun x => fold_ok h4 _ _)) fun σ H Q q => ?_
        rw [own_slots]
        exact compTRd (fun v σ H R q => q) q
      · rcases ifs with _ | ⟨t1, _ | ⟨t2, ts⟩⟩ <;> cases h
    | _ => cases h
  | .compIfT t it d a, X, sc, W, e, c, h => by
    cases e with
    | ListComp elt gens scope pos =>
      rcases gens with _ | ⟨⟨tg, iter, ifs, as⟩, _ | ⟨g2, gs⟩⟩
      · cases h
      · rcases ifs with _ | ⟨t1, _ | ⟨t2, ts⟩⟩ <;> try (cases h; done)
        have h : (decide (as = 0) && blkC N sc.1 scope (ownOf N t.slots) && ckT N (fun x => decide ((relS scope sc.1).names.lookup x = some .local)) t tg && notSet iter && ckI nm N sc (isTupE tg) it iter && notIte d && ckE nm N (relS scope sc.1, false) d t1 && ckE nm N (relS scope sc.1, false) a elt) = true := h
        simp only [Bool.and_eq_true, decide_eq_true_eq] at h
        obtain ⟨⟨⟨⟨⟨⟨⟨rfl, h2⟩, h3⟩, h4⟩, h5⟩, h7⟩, h8⟩, h6⟩ := h
        have okB : BlkOk X.N X.env.scope scope (ownOf N t.slots) := blkOk_by (by rw [c.n, c.sc]; exact h2)
        refine PE.imp (pe_lc (own := ownOf N t.slots) (g := RG X.K t) (tt := RT X.K T Ce G call WF d) (te := RE X.K T Ce G call WF a) c.calm c.nd (soundI it c h5 isTup_of) okB
          (fun s H C cl fp => blk_tgt c h3 s H C cl fp)
          (fun s H C cl fp => pts_one (soundT d h7 (c.blk s H C cl fp scope) h8)) (fun s H C cl fp => soundE a (c.blk s H C cl fp scope) h6) (fun x => fold_ok h4 _ _)) fun σ H Q q => ?_
        rw [own_slots]
        exact compIfTRd (fun v σ H R q => q) q
      · rcases ifs with _ | ⟨t1, _ | ⟨t2, ts⟩⟩ <;> cases h
    | _ => cases h
  | .cmpC op i a, X, sc, W, e, c, h => by
    cases e with
    | Compare l ops cs pos =>
      cases l with
      | Name x p =>
        rcases ops with _ | ⟨o, _ | ⟨o2, os⟩⟩ <;> rcases cs with _ | ⟨r, _ | ⟨r2, rs⟩⟩ <;> try (cases h; done)
        have h : (decide (o = copOf op) && !(behindInMarks o r) && isVar N sc i x && ckE nm N sc a r) = true := h
        simp only [Bool.and_eq_true, decide_eq_true_eq, Bool.not_eq_true'] at h
        obtain ⟨⟨⟨rfl, h0⟩, h1⟩, h2⟩ := h
        obtain ⟨v1, v2, v3, v4⟩ := var_ok c h1
        exact pe_cmpCD c.units65 h0 v1 v2 v3 v4 (soundE a c h2)
      | _ => rcases ops with _ | ⟨o, _ | ⟨o2, os⟩⟩ <;> rcases cs with _ | ⟨r, _ | ⟨r2, rs⟩⟩ <;> cases h
    | _ => cases h
  | .inC neg a i, X, sc, W, e, c, h => by
    cases e with
    | Compare l ops cs pos =>
      rcases ops with _ | ⟨o, _ | ⟨o2, os⟩⟩ <;> rcases cs with _ | ⟨r, _ | ⟨r2, rs⟩⟩ <;> try (cases h; done)
      all_goals try (cases r <;> cases h; done)
      cases r with
      | Name x p =>
        have h : (decide (o = copOf (inOp neg)) && isVar N sc i x && ckE nm N sc a l) = true := h
        simp only [Bool.and_eq_true, decide_eq_true_eq] at h
        obtain ⟨⟨rfl, h1⟩, h2⟩ := h
        obtain ⟨v1, v2, v3, v4⟩ := var_ok c h1
        exact pe_inCD c.units65 v1 v2 v3 v4 (soundE a c h2)
      | _ => cases h
    | _ => cases h
  | .binC op i a, X, sc, W, e, c, h => by
    cases op with
    | add =>
      cases e with
      | BinOp l o r pos =>
        cases l with
        | Name x p =>
          cases o with
          | Add =>
            have h : (isVar N sc i x && ckE nm N sc a r) = true := h
            rw [Bool.and_eq_true] at h
            obtain ⟨v1, v2, v3, v4⟩ := var_ok c h.1
            exact pe_addCD v1 v2 v3 v4 (soundE a c h.2)
          | _ => cases h
        | _ => cases o <;> cases h
      | _ => cases h
    | _ => cases e <;> cases h
  | .sliceC i lo hi, X, sc, W, e, c, h => by
    cases e with
    | Subscript x y pos =>
      cases x with
      | Name x p =>
        cases y with
        | Slice l u st p2 =>
          cases st with
          | none =>
            have h : (isVar N sc i x && ckO nm N sc lo l && ckO nm N sc hi u) = true := h
            simp only [Bool.and_eq_true] at h
            obtain ⟨v1, v2, v3, v4⟩ := var_ok c h.1.1
            exact pe_sliceCD v1 v2 v3 v4 (soundO lo c h.1.2) (soundO hi c h.2)
          | some z => cases h
        | _ => cases h
      | _ => cases y with
        | Slice l u st p2 => cases st <;> cases h
        | _ => cases h
    | _ => cases h
  | .bltC b i, X, sc, W, e, c, h => by
    cases e with
    | Call fn args kws pos =>
      cases fn with
      | Name x p =>
        rcases args with _ | ⟨y, _ | ⟨z, zs⟩⟩ <;> rcases kws with _ | ⟨kw, kws⟩ <;> try (cases h; done)
        all_goals try (cases y <;> cases h; done)
        cases y with
        | Name y p2 =>
          have h : (bltCOk b && decide (x = bltName b) && decide (x ∈ nm.b) && isGl sc x && isVar N sc i y) = true := h
          simp only [Bool.and_eq_true, decide_eq_true_eq] at h
          obtain ⟨⟨⟨⟨h1, h2⟩, h3⟩, h4⟩, h5⟩ := h
          obtain ⟨v1, v2, v3, v4⟩ := var_ok c h5
          exact pe_bltCD h1 c.calm h2 (gl_ok c h4).1 (c.md.bl x h3) v1 v2 v3 v4
        | _ => cases h
      | _ => cases h
    | _ => cases h
  | .told a, X, sc, W, e, c, h => by
    cases e with
    | Call fn args kws pos =>
      cases fn with
      | Name x p =>
        rcases args with _ | ⟨y, _ | ⟨z, zs⟩⟩ <;> rcases kws with _ | ⟨kw, kws⟩ <;> try (cases h; done)
        all_goals try (cases y <;> cases h; done)
        cases y with
        | Lambda params body scope lpos =>
          have h : (decide (x = ("_law_told" : Str)) && sc.2 && isGl sc x && noArgs params && LamX.lamSB sc.1 scope && ckE nm N (scope, false) a body) = true := h
          simp only [Bool.and_eq_true, decide_eq_true_eq] at h
          obtain ⟨⟨⟨⟨⟨rfl, h1⟩, h2⟩, h3⟩, h4⟩, h5⟩ := h
          exact c.td h1 a params body scope p lpos pos (gl_ok c h2).1 h3 (by rw [c.sc]; exact h4) fun A outer s H E f c' hr => soundE a (c.lam hr) h5
        | _ => cases h
      | _ => cases h
    | _ => cases h
termination_by me => (sizeOf me, 0)
theorem soundT : ∀ (me : ME) {X : Cx} {sc : Sx} {W : WX} {e : Expr}, notIte me = true → Cok T Ce G call nm N k X sc W → ckE nm N sc me e = true → PT X e (RT X.K T Ce G call W me)
  | .cmp op a b, X, sc, W, e, _, c, h => by
    cases e with
    | Compare l ops cs pos =>
      rcases ops with _ | ⟨o, _ | ⟨o2, os⟩⟩ <;> rcases cs with _ | ⟨r, _ | ⟨r2, rs⟩⟩ <;> try (cases h; done)
      have h : (decide (o = copOf op) && !(behindInMarks o r) && ckE nm N sc a l && ckE nm N sc b r) = true := h
      simp only [Bool.and_eq_true, decide_eq_true_eq, Bool.not_eq_true'] at h
      obtain ⟨⟨⟨rfl, h0⟩, h1⟩, h2⟩ := h
      exact pt_cmpD (c.units65) h0 (soundE a c h1) (soundE b c h2)
    | _ => cases h
  | .chain o1 o2 a b d, X, sc, W, e, _, c, h => by
    cases e with
    | Compare l ops cs pos =>
      rcases ops with _ | ⟨p1, _ | ⟨p2, _ | ⟨p3, ps⟩⟩⟩ <;> rcases cs with _ | ⟨m, _ | ⟨r, _ | ⟨r2, rs⟩⟩⟩ <;> try (cases h; done)
      have h : (decide (p1 = copOf o1) && decide (p2 = copOf o2) && !(decide (p2 = .In)) && !(decide (p2 = .NotIn)) && ckE nm N sc a l && ckE nm N sc b m && ckE nm N sc d r) = true := h
      simp only [Bool.and_eq_true, decide_eq_true_eq, Bool.not_eq_true', decide_eq_false_iff_not] at h
      obtain ⟨⟨⟨⟨⟨⟨rfl, rfl⟩, n1⟩, n2⟩, h1⟩, h2⟩, h3⟩ := h
      exact PT.imp (pt_chain (cop_ok (T := T) o1 (c.units65)) (cop_ok (T := T) o2 (c.units65)) (soundE a c h1) (soundE b c h2) (soundE d c h3) (nobehind r n1 n2)) fun σ H Q q => chainRd q.of
    | _ => cases h
  | .not a, X, sc, W, e, _, c, h => by
    cases e with
    | UnaryOp op x pos =>
      cases op with
      | Not =>
        have h : (notIte a && ckE nm N sc a x) = true := h
        rw [Bool.and_eq_true] at h
        exact pt_notD (soundT a h.1 c h.2)
      | _ => cases h
    | _ => cases h
  | .and a b, X, sc, W, e, _, c, h => (soundWA a b c h).pt
  | .or a b, X, sc, W, e, _, c, h => (soundWO a b c h).pt
  | .ite d a b, _, _, _, _, h0, _, _ => by cases h0
  | .var i, X, sc, W, e, _, c, h => pt_valD (soundE (.var i) c h) (by cases e <;> first | (intro _; rfl) | cases h)
  | .cst i, X, sc, W, e, _, c, h => pt_valD (soundE (.cst i) c h) (by cases e <;> first | (intro _; rfl) | cases h)
  | .glb i, X, sc, W, e, _, c, h => pt_valD (soundE (.glb i) c h) (by cases e <;> first | (intro _; rfl) | cases h)
  | .bin op a b, X, sc, W, e, _, c, h => pt_valD (soundE (.bin op a b) c h) (by cases e <;> first | (intro _; rfl) | cases h)
  | .neg a, X, sc, W, e, _, c, h => pt_valD (soundE (.neg a) c h) (by
      cases e with
      | UnaryOp op x pos => cases op <;> first | (intro _; rfl) | cases h
      | _ => cases h)
  | .tup es, X, sc, W, e, _, c, h => pt_valD (soundE (.tup es) c h) (by cases e <;> first | (intro _; rfl) | cases h)
  | .lst es, X, sc, W, e, _, c, h => pt_valD (soundE (.lst es) c h) (by cases e <;> first | (intro _; rfl) | cases h)
  | .idx a b, X, sc, W, e, _, c, h => pt_valD (soundE (.idx a b) c h) (by cases e <;> first | (intro _; rfl) | cases h)
  | .slice a l u, X, sc, W, e, _, c, h => pt_valD (soundE (.slice a l u) c h) (by cases e <;> first | (intro _; rfl) | cases h)
  | .call f es, X, sc, W, e, _, c, h => pt_valD (soundE (.call f es) c h) (by cases e <;> first | (intro _; rfl) | cases h)
  | .blt f es, X, sc, W, e, _, c, h => pt_valD (soundE (.blt f es) c h) (by cases e <;> first | (intro _; rfl) | cases h)
  | .isi a t, X, sc, W, e, _, c, h => pt_valD (soundE (.isi a t) c h) (by cases e <;> first | (intro _; rfl) | cases h)
  | .comp i it a, X, sc, W, e, _, c, h => pt_valD (soundE (.comp i it a) c h) (by cases e <;> first | (intro _; rfl) | cases h)
  | .compIf i it d a, X, sc, W, e, _, c, h => pt_valD (soundE (.compIf i it d a) c h) (by cases e <;> first | (intro _; rfl) | cases h)
  | .idxC i a, X, sc, W, e, _, c, h => pt_valD (soundE (.idxC i a) c h) (by cases e <;> first | (intro _; rfl) | cases h)
  | .cv i, X, sc, W, e, _, c, h => by cases e <;> cases h
  | .nl, X, sc, W, e, _, c, h => by cases e <;> cases h
  | .comp2 i it j it2 a, X, sc, W, e, _, c, h => by cases e <;> cases h
  | .comp2If i it j it2 d a, X, sc, W, e, _, c, h => by cases e <;> cases h
  | .stk, X, sc, W, e, h0, c, h => by cases h0
  | .compT t it a, X, sc, W, e, _, c, h => pt_valD (soundE (.compT t it a) c h) (by cases e <;> first | (intro _; rfl) | cases h)
  | .compIfT t it d a, X, sc, W, e, _, c, h => pt_valD (soundE (.compIfT t it d a) c h) (by cases e <;> first | (intro _; rfl) | cases h)
  | .cmpC op i a, X, sc, W, e, _, c, h => by
    cases e with
    | Compare l ops cs pos =>
      cases l with
      | Name x p =>
        rcases ops with _ | ⟨o, _ | ⟨o2, os⟩⟩ <;> rcases cs with _ | ⟨r, _ | ⟨r2, rs⟩⟩ <;> try (cases h; done)
        have h : (decide (o = copOf op) && !(behindInMarks o r) && isVar N sc i x && ckE nm N sc a r) = true := h
        simp only [Bool.and_eq_true, decide_eq_true_eq, Bool.not_eq_true'] at h
        obtain ⟨⟨⟨rfl, h0⟩, h1⟩, h2⟩ := h
        obtain ⟨v1, v2, v3, v4⟩ := var_ok c h1
        exact pt_cmpCD c.units65 h0 v1 v2 v3 v4 (soundE a c h2)
      | _ => rcases ops with _ | ⟨o, _ | ⟨o2, os⟩⟩ <;> rcases cs with _ | ⟨r, _ | ⟨r2, rs⟩⟩ <;> cases h
    | _ => cases h
  | .inC neg a i, X, sc, W, e, _, c, h => by
    cases e with
    | Compare l ops cs pos =>
      rcases ops with _ | ⟨o, _ | ⟨o2, os⟩⟩ <;> rcases cs with _ | ⟨r, _ | ⟨r2, rs⟩⟩ <;> try (cases h; done)
      all_goals try (cases r <;> cases h; done)
      cases r with
      | Name x p =>
        have h : (decide (o = copOf (inOp neg)) && isVar N sc i x && ckE nm N sc a l) = true := h
        simp only [Bool.and_eq_true, decide_eq_true_eq] at h
        obtain ⟨⟨rfl, h1⟩, h2⟩ := h
        obtain ⟨v1, v2, v3, v4⟩ := var_ok c h1
        exact pt_inCD c.units65 v1 v2 v3 v4 (soundE a c h2)
      | _ => cases h
    | _ => cases h
  | .binC op i a, X, sc, W, e, _, c, h => pt_valD (soundE (.binC op i a) c h) (by cases op <;> cases e <;> first | (intro _; rfl) | cases h)
  | .sliceC i lo hi, X, sc, W, e, _, c, h => pt_valD (soundE (.sliceC i lo hi) c h) (by cases e <;> first | (intro _; rfl) | cases h)
  | .bltC b i, X, sc, W, e, _, c, h => pt_valD (soundE (.bltC b i) c h) (by cases e <;> first | (intro _; rfl) | cases h)
  | .told a, X, sc, W, e, _, c, h => pt_valD (soundE (.told a) c h) (by cases e <;> first | (intro _; rfl) | cases h)
termination_by me => (sizeOf me, 2)
theorem soundWA : ∀ (a b : ME) {X : Cx} {sc : Sx} {W : WX} {e : Expr}, Cok T Ce G call nm N k X sc W → ckE nm N sc (.and a b) e = true → PW X e (RT X.K T Ce G call W (.and a b))
  | a, b, X, sc, W, e, c, h => by
    cases e with
    | BoolOp op vs pos =>
      cases op with
      | Or => rcases vs with _ | ⟨x, _ | ⟨y, rest⟩⟩ <;> cases h
      | And =>
        rcases vs with _ | ⟨x, _ | ⟨y, rest⟩⟩ <;> try (cases h; done)
        cases rest with
        | nil =>
          have h : (notIte a && notIte b && ckE nm N sc a x && ckE nm N sc b y) = true := h
          simp only [Bool.and_eq_true] at h
          exact pw_andD (soundT a h.1.1.1 c h.1.2) (pw_and1 (soundT b h.1.1.2 c h.2))
        | cons z zs =>
          have h : (notIte a && notIte b && ckE nm N sc a x && ckE nm N sc b (.BoolOp .And (y :: z :: zs) pos)) = true := h
          simp only [Bool.and_eq_true] at h
          have hb := h.2
          cases b with
          | and b1 b2 => exact pw_andD (soundT a h.1.1.1 c h.1.2) (soundWA b1 b2 c hb)
          | or b1 b2 => cases hb
          | stk => cases h.1.1.2
          | binC op _ _ => cases op <;> cases hb
          | _ => cases hb
    | _ => cases h
termination_by a b => (sizeOf (ME.and a b), 1)
theorem soundWO : ∀ (a b : ME) {X : Cx} {sc : Sx} {W : WX} {e : Expr}, Cok T Ce G call nm N k X sc W → ckE nm N sc (.or a b) e = true → PW X e (RT X.K T Ce G call W (.or a b))
  | a, b, X, sc, W, e, c, h => by
    cases e with
    | BoolOp op vs pos =>
      cases op with
      | And => rcases vs with _ | ⟨x, _ | ⟨y, rest⟩⟩ <;> cases h
      | Or =>
        rcases vs with _ | ⟨x, _ | ⟨y, rest⟩⟩ <;> try (cases h; done)
        cases rest with
        | nil =>
          have h : (notIte a && notIte b && ckE nm N sc a x && ckE nm N sc b y) = true := h
          simp only [Bool.and_eq_true] at h
          exact pw_orD (soundT a h.1.1.1 c h.1.2) (pw_or1 (soundT b h.1.1.2 c h.2))
        | cons z zs =>
          have h : (notIte a && notIte b && ckE nm N sc a x && ckE nm N sc b (.BoolOp .Or (y :: z :: zs) pos)) = true := h
          simp only [Bool.and_eq_true] at h
          have hb := h.2
          cases b with
          | or b1 b2 => exact pw_orD (soundT a h.1.1.1 c h.1.2) (soundWO b1 b2 c hb)
          | and b1 b2 => cases hb
          | stk => cases h.1.1.2
          | binC op _ _ => cases op <;> cases hb
          | _ => cases hb
    | _ => cases h
termination_by a b => (sizeOf (ME.or a b), 1)
theorem soundEs : ∀ (es : MEs) {X : Cx} {sc : Sx} {W : WX} {xs : List Expr}, Cok T Ce G call nm N k X sc W → ckEs nm N sc es xs = true → PA X xs (RAs X.K T Ce G call W es)
  | .nil, X, sc, W, xs, c, h => by
    cases xs with
    | nil => exact pa_nilD
    | cons _ _ => cases h
  | .cons e es, X, sc, W, xs, c, h => by
    cases xs with
    | nil => cases h
    | cons x xs =>
      have h : (notStar x && ckE nm N sc e x && ckEs nm N sc es xs) = true := h
      simp only [Bool.and_eq_true] at h
      exact pa_consD (soundE e c h.1.2) (soundEs es c h.2) h.1.1
termination_by es => (sizeOf es, 0)
theorem soundV : ∀ (es : MEs) {X : Cx} {sc : Sx} {W : WX} {xs : List Expr}, Cok T Ce G call nm N k X sc W → ckEv nm N sc es xs = true → xs.all notStar = true ∧ PA X xs (RAv X.K T Ce G call W es)
  | .nil, X, sc, W, xs, c, h => by
    cases xs with
    | nil => exact ⟨rfl, pv_nilD⟩
    | cons _ _ => cases h
  | .cons e es, X, sc, W, xs, c, h => by
    cases xs with
    | nil => cases e <;> cases h
    | cons x xs =>
      by_cases hc : isCv e = true
      · cases e with
        | cv i =>
          cases x with
          | Name x p =>
            have h : (isVar N sc i x && ckEv nm N sc es xs) = true := h
            rw [Bool.and_eq_true] at h
            obtain ⟨h1, h2, h3, h4⟩ := var_ok c h.1
            obtain ⟨h5, h6⟩ := soundV es c h.2
            exact ⟨by rw [List.all_cons, h5]; rfl, pv_cellD h1 h2 h3 h4 h6⟩
          | _ =>
            have h : (_ && !true && _ && _) = true := h
            simp at h
        | nl =>
          cases x with
          | List ys p =>
            cases ys with
            | nil =>
              have h : ckEv nm N sc es xs = true := h
              obtain ⟨h5, h6⟩ := soundV es c h
              exact ⟨by rw [List.all_cons, h5]; rfl, pv_nlD h6⟩
            | cons y ys =>
              have h : (_ && !true && _ && _) = true := h
              simp at h
          | _ =>
            have h : (_ && !true && _ && _) = true := h
            simp at h
        | _ => cases hc
      · have hc : isCv e = false := by simpa using hc
        have h : (notStar x && !isCv e && ckE nm N sc e x && ckEv nm N sc es xs) = true := by
          cases e <;> first | exact h | cases hc
        simp only [Bool.and_eq_true] at h
        obtain ⟨h5, h6⟩ := soundV es c h.2
        exact ⟨by rw [List.all_cons, h.1.1.1, h5]; rfl, pv_consD hc (soundE e c h.1.2) h6 h.1.1.1⟩
termination_by es => (sizeOf es, 0)
theorem soundO : ∀ (o : MO) {X : Cx} {sc : Sx} {W : WX} {x : Option Expr}, Cok T Ce G call nm N k X sc W → ckO nm N sc o x = true → PO X x (RO X.K T Ce G call W o)
  | .none, X, sc, W, x, c, h => by
    cases x with
    | none => exact po_noneD
    | some _ => cases h
  | .some e, X, sc, W, x, c, h => by
    cases x with
    | none => cases h
    | some x => exact po_someD (soundE e c h)
termination_by o => (sizeOf o, 0)
theorem soundI : ∀ (it : MI) {X : Cx} {sc : Sx} {W : WX} {tb : Bool} {tg e : Expr}, Cok T Ce G call nm N k X sc W → ckI nm N sc tb it e = true → (tb = true → ∃ elts k p, tg = .Tuple elts k p) → PI X tg e (RI X.K T Ce G call W it)
  | .seq a, X, sc, W, tb, tg, e, c, h, _ => pi_seqD (soundE a c h)
  | .rng1 a, X, sc, W, tb, tg, e, c, h, _ => by
    cases e with
    | Call fn args kws pos =>
      cases fn with
      | Name x p =>
        rcases args with _ | ⟨y, _ | ⟨z, zs⟩⟩ <;> rcases kws with _ | ⟨kw, kws⟩ <;> try (cases h; done)
        have h : (decide (x = ("range" : Str)) && decide (x ∈ nm.b) && isGl sc x && notStar y && ckE nm N sc a y) = true := h
        simp only [Bool.and_eq_true, decide_eq_true_eq] at h
        obtain ⟨⟨⟨⟨rfl, h1⟩, h2⟩, h3⟩, h4⟩ := h
        exact pi_rng1D (gl_ok c h2).1 (c.md.bl _ h1) h3 (soundE a c h4)
      | _ => cases h
    | _ => cases h
  | .rng2 a b, X, sc, W, tb, tg, e, c, h, _ => by
    cases e with
    | Call fn args kws pos =>
      cases fn with
      | Name x p =>
        rcases args with _ | ⟨y, _ | ⟨z, _ | ⟨z2, zs⟩⟩⟩ <;> rcases kws with _ | ⟨kw, kws⟩ <;> try (cases h; done)
        have h : (decide (x = ("range" : Str)) && decide (x ∈ nm.b) && isGl sc x && notStar y && notStar z && ckE nm N sc a y && ckE nm N sc b z) = true := h
        simp only [Bool.and_eq_true, decide_eq_true_eq] at h
        obtain ⟨⟨⟨⟨⟨⟨rfl, h1⟩, h2⟩, h3⟩, h4⟩, h5⟩, h6⟩ := h
        exact pi_rng2D (gl_ok c h2).1 (c.md.bl _ h1) h3 h4 (soundE a c h5) (soundE b c h6)
      | _ => cases h
    | _ => cases h
  | .enum a, X, sc, W, tb, tg, e, c, h, ht => by
    cases e with
    | Call fn args kws pos =>
      cases fn with
      | Name x p =>
        rcases args with _ | ⟨y, _ | ⟨z, zs⟩⟩ <;> rcases kws with _ | ⟨kw, kws⟩ <;> try (cases h; done)
        have h : (tb && decide (x = ("enumerate" : Str)) && decide (x ∈ nm.b) && isGl sc x && notStar y && ckE nm N sc a y) = true := h
        simp only [Bool.and_eq_true, decide_eq_true_eq] at h
        obtain ⟨⟨⟨⟨⟨h0, rfl⟩, h1⟩, h2⟩, h3⟩, h4⟩ := h
        obtain ⟨elts, kk, pp, rfl⟩ := ht h0
        exact pi_enumD (gl_ok c h2).1 (c.md.bl _ h1) h3 (soundE a c h4)
      | _ => cases h
    | _ => cases h
termination_by it => (sizeOf it, 0)
end
end
end Mp

set_option maxRecDepth 100000
set_option maxHeartbeats 4000000
/-! Mp7: statements. -/
namespace Mp
open PySem L2
section
variable (K : PySem.W.Frag) (T : List (Addr × Str)) (Ce : Nat → Addr) (G : Nat → Option D) (call : Nat → List Val → M D) (W : WX)
/-- what a suite's end promises -/
def Sw (θ : Th) (H : Hp) (r : Option SR) (D : Ends) : Prop := match r with
  | none => False
  | some (.next en' μ') => ∀ θ' H' σ', Step θ H θ' H' → SRel K T H' θ' μ' → ERel K H' θ' en' σ' → D.nx σ' H'
  | some (.ret d μ') => ∀ θ' H' v, Step θ H θ' H' → SRel K T H' θ' μ' → VR K H' θ' d v → D.rt v H'
  | some (.retC c μ') => ∀ θ' H' a, Step θ H θ' H' → SRel K T H' θ' μ' → At θ' c a → D.rt (.ref a) H'
  | some (.exc c μ') => ∀ θ' H' σ', Step θ H θ' H' → SRel K T H' θ' μ' → W (.ref (Ce c)) none σ' H'
def RSu (m : En → Store → Option SR) : TS := fun D σ H => ∃ en μ θ, ERel K H θ en σ ∧ SRel K T H θ μ ∧ Sw K T Ce W θ H (m en μ) D
def RS (s : MS) : TS := RSu K T Ce W (ex G call s)
def RSs (s : List MS) : TS := RSu K T Ce W (exs G call s)
end
section
variable {K : PySem.W.Frag} {T : List (Addr × Str)} {Ce : Nat → Addr} {G : Nat → Option D} {call : Nat → List Val → M D} {W : WX} {θ θ1 : Th} {H H1 : Hp} {D : Ends}
theorem Sw.step {r : Option SR} (h : Sw K T Ce W θ H r D) (st : Step θ H θ1 H1) : Sw K T Ce W θ1 H1 r D := by
  cases r with
  | none => exact h
  | some r =>
    cases r with
    | next a μ' => exact fun θ' H' v st' sr rl => h θ' H' v (st.trans st') sr rl
    | ret d μ' => exact fun θ' H' v st' sr rl => h θ' H' v (st.trans st') sr rl
    | retC d μ' => exact fun θ' H' v st' sr rl => h θ' H' v (st.trans st') sr rl
    | exc c μ' => exact fun θ' H' v st' sr => h θ' H' v (st.trans st') sr
theorem Sw.bind {α β : Type} {rel : Hp → Th → α → β → Prop} {r : Option (Res α)} {k : α → Store → Option SR} {σ : St} (h : Sw K T Ce W θ H (sbind r k) D) :
    Wp K T Ce rel W σ θ H r (fun x H1 => ∃ θ1 d μ1, Step θ H θ1 H1 ∧ SRel K T H1 θ1 μ1 ∧ rel H1 θ1 d x ∧ Sw K T Ce W θ1 H1 (k d μ1) D) := by
  cases r with
  | none => exact h
  | some r =>
    cases r with
    | ok a μ' => exact fun θ' H' v st sr rl => ⟨θ', a, μ', st, sr, rl, Sw.step (show Sw K T Ce W θ H (k a μ') D from h) st⟩
    | exc c μ' => exact fun θ' H' st sr => h θ' H' σ st sr
/-- the step into an expression's reading -/
theorem RSu.bind {α β : Type} {rel : Hp → Th → α → β → Prop} {m : En → M α} {k : En → α → Store → Option SR} {σ : St} {en : En} {μ : Store} (er : ERel K H θ en σ) (sr : SRel K T H θ μ) (h : Sw K T Ce W θ H (sbind (m en μ) (k en)) D) {R : β → Hp → Prop}
    (hk : ∀ x H1 θ1 d μ1, ERel K H1 θ1 en σ → Step θ H θ1 H1 → SRel K T H1 θ1 μ1 → rel H1 θ1 d x → Sw K T Ce W θ1 H1 (k en d μ1) D → R x H1) : RM K T Ce W rel m σ H R :=
  ⟨en, μ, θ, er, sr, (Sw.bind (rel := rel) h).mono fun x H1 ⟨θ1, d, μ1, st, sr1, rl, h1⟩ => hk x H1 θ1 d μ1 (er.step st) st sr1 rl h1⟩
/-- the first part of a sequence -/
theorem Sw.seq {r : Option SR} {k : En → Store → Option SR} (h : Sw K T Ce W θ H (snext r k) D) {N : St → Hp → Prop} (hN : ∀ θ1 H1 σ1 en1 μ1, Step θ H θ1 H1 → SRel K T H1 θ1 μ1 → ERel K H1 θ1 en1 σ1 → Sw K T Ce W θ1 H1 (k en1 μ1) D → N σ1 H1) : Sw K T Ce W θ H r { D with nx := N } := by
  cases r with
  | none => exact h
  | some r =>
    cases r with
    | next a μ' => exact fun θ' H' v st sr rl => hN θ' H' v a μ' st sr rl (Sw.step (show Sw K T Ce W θ H (k a μ') D from h) st)
    | ret d μ' => exact h
    | retC d μ' => exact h
    | exc c μ' => exact h
theorem Sw.ends {r : Option SR} {D' : Ends} (h : Sw K T Ce W θ H r D) (h1 : ∀ σ H, D.nx σ H → D'.nx σ H) (h2 : ∀ v H, D.rt v H → D'.rt v H) : Sw K T Ce W θ H r D' := by
  cases r with
  | none => exact h
  | some r =>
    cases r with
    | next a μ' => exact fun θ' H' v st sr rl => h1 _ _ (h θ' H' v st sr rl)
    | ret d μ' => exact fun θ' H' v st sr rl => h2 _ _ (h θ' H' v st sr rl)
    | retC d μ' => exact fun θ' H' v st sr rl => h2 _ _ (h θ' H' v st sr rl)
    | exc c μ' => exact h
end
section
variable {X : Cx} {T : List (Addr × Str)} {Ce : Nat → Addr} {G : Nat → Option D} {call : Nat → List Val → M D} {W : WX}
theorem pss_nilD : PSs X [] ((RSs X.K T Ce G call W) []) := PSs.imp pss_nil fun D σ H ⟨en, μ, θ, er, sr, h⟩ => h θ H σ .refl sr er
theorem pss_consD {s : MS} {ss : List MS} {st : Stmt} {rest : List Stmt} (h1 : PS X st ((RS X.K T Ce G call W) s)) (h2 : PSs X rest ((RSs X.K T Ce G call W) ss)) : PSs X (st :: rest) ((RSs X.K T Ce G call W) (s :: ss)) :=
  PSs.imp (pss_cons h1 h2) fun D σ H ⟨en, μ, θ, er, sr, h⟩ => ⟨en, μ, θ, er, sr, Sw.seq (k := fun en μ => exs G call ss en μ) h fun θ1 H1 σ1 en1 μ1 st sr1 er1 h1 => ⟨en1, μ1, θ1, er1, sr1, h1⟩⟩
theorem asgRd {i : Nat} {e : ME} {D : Ends} {σ : St} {H : Hp} {K : PySem.W.Frag} (h : RS K T Ce G call W (.asg (.n i) e) D σ H) : tAsg (RE K T Ce G call W e) (gName i) D σ H := by
  obtain ⟨en, μ, θ, er, sr, h⟩ := h
  refine RSu.bind (m := ev G call e) (rel := VR K) (k := fun en x μ => (setT (.n i) x en).map fun en' => .next en' μ) er sr h fun x H1 θ1 d1 μ1 er1 st1 sr1 r1 h1 => ?_
  exact h1 θ1 H1 _ .refl sr1 (er1.set i (x := .d d1) r1)
theorem ps_retD {e : ME} {x : Expr} {pos : Pos} (he : PE X x ((RE X.K T Ce G call W) e)) : PS X (.Return (some x) pos) ((RS X.K T Ce G call W) (.ret e)) :=
  PS.imp (ps_ret he) fun D σ H ⟨en, μ, θ, er, sr, h⟩ => by
    refine RSu.bind (m := ev G call e) (rel := VR X.K) (k := fun en x μ => some (.ret x μ)) er sr h fun x H1 θ1 d1 μ1 er1 st1 sr1 r1 h1 => ?_
    exact h1 θ1 H1 _ .refl sr1 r1
theorem ps_retND {pos : Pos} : PS X (.Return none pos) ((RS X.K T Ce G call W) .retN) :=
  PS.imp ps_retN fun D σ H ⟨en, μ, θ, er, sr, h⟩ => h θ H _ .refl sr .non
theorem ps_exprD {e : ME} {x : Expr} {pos : Pos} (he : PE X x ((RE X.K T Ce G call W) e)) (hs : swapsWith x none pos.line X.env = pure false) : PS X (.Expr x pos) ((RS X.K T Ce G call W) (.expr e)) :=
  PS.imp (ps_expr he hs) fun D σ H ⟨en, μ, θ, er, sr, h⟩ => by
    refine RSu.bind (m := ev G call e) (rel := VR X.K) (k := fun en x μ => some (.next en μ)) er sr h fun x H1 θ1 d1 μ1 er1 st1 sr1 r1 h1 => ?_
    exact h1 θ1 H1 _ .refl sr1 er1
theorem ps_passD {pos : Pos} : PS X (.Pass pos) ((RS X.K T Ce G call W) .pass) :=
  PS.imp ps_pass fun D σ H ⟨en, μ, θ, er, sr, h⟩ => h θ H _ .refl sr er
theorem ps_ifD {c : ME} {a b : List MS} {t : Expr} {x y : List Stmt} {pos : Pos} (hc : PT X t ((RT X.K T Ce G call W) c)) (ha : PSs X x ((RSs X.K T Ce G call W) a)) (hb : PSs X y ((RSs X.K T Ce G call W) b)) : PS X (.If t x y pos) ((RS X.K T Ce G call W) (.iff c a b)) := by
  refine PS.imp (ps_if hc ha hb) fun D σ H ⟨en, μ, θ, er, sr, h⟩ => ?_
  have e : ex G call (.iff c a b) en μ = sbind (M.bind (ev G call c en) (fun x => M.of (boolOf x)) μ) fun k μ => match k with
      | true => exs G call a en μ
      | false => exs G call b en μ := by
    show sbind (ev G call c en μ) (fun x μ => match boolOf x with
      | some true => exs G call a en μ
      | some false => exs G call b en μ
      | none => none) = _
    unfold M.bind
    cases ev G call c en μ with
    | none => rfl
    | some r =>
      cases r with
      | exc c μ => rfl
      | ok x μ1 =>
        show (match boolOf x with
          | some true => exs G call a en μ1
          | some false => exs G call b en μ1
          | none => none) = sbind (M.of (boolOf x) μ1) (fun k μ => match k with
          | true => exs G call a en μ
          | false => exs G call b en μ)
        cases boolOf x with
        | none => rfl
        | some k => cases k <;> rfl
  rw [e] at h
  refine RSu.bind (m := fun en => M.bind (ev G call c en) (fun x => M.of (boolOf x))) (rel := relB) (k := fun en k μ => match k with
      | true => exs G call a en μ
      | false => exs G call b en μ) er sr h fun x H1 θ1 d1 μ1 er1 st1 sr1 r1 h1 => ?_
  obtain rfl : d1 = x := r1
  cases d1 with
  | true => exact ⟨en, μ1, θ1, er1, sr1, h1⟩
  | false => exact ⟨en, μ1, θ1, er1, sr1, h1⟩
theorem whileRd {c : En → M Bool} {b : En → Store → Option SR} {tc : TT} {tb : TS} {K : PySem.W.Frag} {σ : St} {H : Hp} {D : Ends} {en : En} {μ : Store} {θ : Th} {n : Nat} (hc : ∀ σ H R, RM K T Ce W relB c σ H R → tc σ H R) (hb : ∀ D σ H, RSu K T Ce W b D σ H → tb D σ H)
    (er : ERel K H θ en σ) (sr : SRel K T H θ μ) (h : Sw K T Ce W θ H (whileL c b n en μ) D) : tWhile tc tb D σ H := by
  refine ⟨fun m σ H => ∃ en μ θ, ERel K H θ en σ ∧ SRel K T H θ μ ∧ Sw K T Ce W θ H (whileL c b m en μ) D, ⟨n, en, μ, θ, er, sr, h⟩, ?_⟩
  rintro m σ H ⟨en, μ, θ, er, sr, h⟩
  cases m with
  | zero => exact h.elim
  | succ m =>
    have h : Sw K T Ce W θ H (sbind (c en μ) fun k μ => match k with
      | true => snext (b en μ) fun en μ => whileL c b m en μ
      | false => some (.next en μ)) D := h
    refine hc σ H _ (RSu.bind (m := c) (rel := relB) (k := fun en k μ => match k with
      | true => snext (b en μ) fun en μ => whileL c b m en μ
      | false => some (.next en μ)) er sr h fun x H1 θ1 d1 μ1 er1 st1 sr1 r1 h1 => ?_)
    obtain rfl : d1 = x := r1
    cases d1 with
    | true =>
      refine ⟨fun σ' H' => ∃ en μ θ, ERel K H' θ en σ' ∧ SRel K T H' θ μ ∧ Sw K T Ce W θ H' (whileL c b m en μ) D, fun σ' H' z => ⟨m, Nat.lt_succ_self _, z⟩, ?_⟩
      refine hb _ _ _ ⟨en, μ1, θ1, er1, sr1, ?_⟩
      have z := Sw.seq (k := fun en μ => whileL c b m en μ) (N := fun σ' H' => ∃ en μ θ, ERel K H' θ en σ' ∧ SRel K T H' θ μ ∧ Sw K T Ce W θ H' (whileL c b m en μ) D) h1 fun θ2 H2 σ2 en2 μ2 st2 sr2 er2 h2 => ⟨en2, μ2, θ2, er2, sr2, h2⟩
      exact Sw.ends z (fun _ _ q => q) (fun _ _ q => q)
    | false => exact h1 θ1 H1 _ .refl sr1 er1
theorem ps_whileD {c : ME} {b : List MS} {f : En → Nat} {t : Expr} {x : List Stmt} {pos : Pos} (hp : PassesOwn (model X.prog X.w) X.A X.env X.xe) (hc : PT X t ((RT X.K T Ce G call W) c)) (hb : PSs X x ((RSs X.K T Ce G call W) b)) : PS X (.While t x [] pos) ((RS X.K T Ce G call W) (.whl c b f)) :=
  PS.imp (ps_while hp hc hb) fun D σ H ⟨en, μ, θ, er, sr, h⟩ => whileRd (c := fun en => (ev G call c en).bind fun x => M.of (boolOf x)) (b := fun en μ => exs G call b en μ) (fun σ H R q => q) (fun D σ H q => q) er sr h
theorem forRd {t : Tg} {b : En → Store → Option SR} {K : PySem.W.Frag} {g : TG} {tb : TS} {σ : St} {H : Hp} {D : Ends} {en : En} {μ : Store} {θ : Th} {xs : List PyData} {J : It} (hg : ∀ v σ H Q, RG K t v σ H Q → g v σ H Q) (hb : ∀ D σ H, RSu K T Ce W b D σ H → tb D σ H)
    (er : ERel K H θ en σ) (sr : SRel K T H θ μ) (hJ : ItF K H θ xs J) (h : Sw K T Ce W θ H (forL t b xs en μ) D) :
    ∃ Wv : Nat → Nat → St → Hp → Prop, (∃ m, Wv 0 m σ H) ∧ ∀ i m σ H, Wv i m σ H →
      (J.stop i H ∧ D.nx σ H) ∨ (J.go i H ∧ ∃ N : St → Hp → Prop, (∀ σ' H', N σ' H' → ∃ m', m' < m ∧ Wv (i + 1) m' σ' H') ∧ ∀ x H', J.yld i H x H' → g x σ H' fun σ2 H2 => tb { D with nx := N, ct := N, bk := D.nx } σ2 H2) := by
  let Rest := fun (i : Nat) (σ : St) (H : Hp) => ∃ en μ θ, ERel K H θ en σ ∧ SRel K T H θ μ ∧ ItF K H θ xs J ∧ i ≤ xs.length ∧ Sw K T Ce W θ H (forL t b (xs.drop i) en μ) D
  refine ⟨fun i m σ H => m = xs.length - i ∧ Rest i σ H, ⟨xs.length, rfl, en, μ, θ, er, sr, hJ, Nat.zero_le _, h⟩, ?_⟩
  rintro i m σ H ⟨rfl, en, μ, θ, er, sr, hJ, hi, h⟩
  by_cases hlt : i < xs.length
  · refine .inr ⟨hJ.go hlt, Rest (i + 1), fun σ' H' z => ⟨xs.length - (i + 1), by omega, rfl, z⟩, fun x H' hy => ?_⟩
    obtain ⟨sty, sr, rx⟩ := hJ.yl sr (List.getElem?_eq_getElem hlt) hy
    have er := er.step sty
    have hJ := hJ.step sty
    have h := Sw.step h sty
    have ed : xs.drop i = xs[i] :: xs.drop (i + 1) := List.drop_eq_getElem_cons hlt
    rw [ed] at h
    have h : Sw K T Ce W θ H' (match setT t xs[i] en with
      | none => none
      | some en' => snext (b en' μ) fun en μ => forL t b (xs.drop (i + 1)) en μ) D := h
    cases e : setT t xs[i] en with
    | none => rw [e] at h; exact h.elim
    | some en' =>
      rw [e] at h
      refine hg _ _ _ _ ⟨xs[i], en, θ, en', rx, er, e, fun σ' er' _ => hb _ _ _ ⟨en', μ, θ, er', sr, ?_⟩⟩
      have z := Sw.seq (k := fun en μ => forL t b (xs.drop (i + 1)) en μ) (N := Rest (i + 1)) h fun θ2 H2 σ2 en2 μ2 st2 sr2 er2 h2 => ⟨en2, μ2, θ2, er2, sr2, hJ.step st2, hlt, h2⟩
      exact Sw.ends z (fun _ _ q => q) (fun _ _ q => q)
  · have e : i = xs.length := by omega
    subst e
    refine .inl ⟨hJ.st, ?_⟩
    rw [List.drop_length] at h
    exact h θ H _ .refl sr er
theorem ps_forD {t : Tg} {it : MI} {b : List MS} {tg iter : Expr} {x : List Stmt} {pos : Pos} (hp : PassesOwn (model X.prog X.w) X.A X.env X.xe) (hc : X.calm = true) (hi : PI X tg iter (RI X.K T Ce G call W it)) (hg : PG X tg (RG X.K t)) (hb : PSs X x ((RSs X.K T Ce G call W) b)) (hs : ∀ x, foldedSetIterable iter X.env x = pure x) :
    PS X (.For tg iter x [] pos) ((RS X.K T Ce G call W) (.fr t it b)) :=
  PS.imp (ps_for hp hc hi hg hb hs) fun D σ H ⟨en, μ, θ, er, sr, h⟩ => by
    refine RSu.bind (m := evi G call it) (rel := ItF X.K) (k := fun en xs μ => forL t (fun en μ => exs G call b en μ) xs en μ) er sr h fun J H1 θ1 xs μ1 er1 st1 sr1 hJ h1 => ?_
    exact forRd (b := fun en μ => exs G call b en μ) (fun v σ H Q q => q) (fun D σ H q => q) er1 sr1 hJ h1
theorem ps_asgTD {t : Tg} {e : ME} {tg x : Expr} {pos : Pos} (he : PE X x ((RE X.K T Ce G call W) e)) (hg : PG X tg (RG X.K t)) (hs : swapsWithSole [tg] x pos.line X.env = pure false) (hw : swappedStores [tg] x X.env = pure none) (h1 : (assignEach [tg] X.env).map (·.2) = [assign tg X.env]) : PS X (.Assign [tg] x pos) ((RS X.K T Ce G call W) (.asg t e)) :=
  PS.imp (ps_asg he hg hs hw h1) fun D σ H ⟨en, μ, θ, er, sr, h⟩ => by
    refine RSu.bind (m := ev G call e) (rel := VR X.K) (k := fun en x μ => (setT t x en).map fun en' => .next en' μ) er sr h fun x H1 θ1 d1 μ1 er1 st1 sr1 r1 h1 => ?_
    cases q : setT t d1 en with
    | none => rw [q] at h1; exact h1.elim
    | some en' =>
      rw [q] at h1
      exact ⟨d1, en, θ1, en', r1, er1, q, fun σ' er' _ => h1 θ1 H1 _ .refl sr1 er'⟩
theorem ps_parD {i j : Nat} {a b : ME} {x y : Str} {l r : Expr} {px py pt pt2 pos : Pos} {kt k2 : Nat} (hc : X.calm = true) (hN : X.N.Nodup) (hi : X.N[i]? = some x) (hj : X.N[j]? = some y) (hij : i ≠ j)
    (hx : X.env.scope.names.lookup x = some .local) (hy : X.env.scope.names.lookup y = some .local) (ha : PE X l ((RE X.K T Ce G call W) a)) (hb : PE X r ((RE X.K T Ce G call W) b)) (sl : notStar l = true) (sr' : notStar r = true)
    (hw : swappedStores [.Tuple [.Name x px, .Name y py] kt pt] (.Tuple [l, r] k2 pt2) X.env = pure (some [x, y])) :
    PS X (.Assign [.Tuple [.Name x px, .Name y py] kt pt] (.Tuple [l, r] k2 pt2) pos) ((RS X.K T Ce G call W) (.par i j a b)) :=
  PS.imp (ps_par hc hN hi hj hij hx hy (pa_cons ha (pa_cons hb pa_nil (star_cons sr')) (star_cons sl)) hw) fun D σ H ⟨en, μ, θ, er, sr, h⟩ => by
    refine RSu.bind (m := ev G call a) (rel := VR X.K) (k := fun en x μ => sbind (ev G call b en μ) fun y μ => some (.next ((en.set i (some (.d x))).set j (some (.d y))) μ)) er sr h fun x H1 θ1 d1 μ1 er1 st1 sr1 r1 h1 => ?_
    refine RSu.bind (m := ev G call b) (rel := VR X.K) (k := fun en y μ => some (.next ((en.set i (some (.d d1))).set j (some (.d y))) μ)) er1 sr1 h1 fun y H2 θ2 d2 μ2 er2 st2 sr2 r2 h2 => ?_
    exact ⟨x, y, rfl, h2 θ2 H2 _ .refl sr2 ((er2.set i (x := .d d1) (r1.step st2)).set j (x := .d d2) r2)⟩
theorem ps_setCD {i : Nat} {k v : ME} {x : Str} {y z : Expr} {p p2 pos : Pos} (hN : X.N[i]? = some x) (hv : Vis X.env.scope x) (hd : (x == ("__debug__" : Str)) = false) (hcd : (x == ("__classdict__" : Str)) = false) (hns : notSlice y = true) (hk : PE X y ((RE X.K T Ce G call W) k)) (hz : PE X z ((RE X.K T Ce G call W) v))
    (hs : swapsWithSole [.Subscript (.Name x p) y p2] z pos.line X.env = pure false) (hw : swappedStores [.Subscript (.Name x p) y p2] z X.env = pure none) : PS X (.Assign [.Subscript (.Name x p) y p2] z pos) ((RS X.K T Ce G call W) (.setC i k v)) :=
  PS.imp (ps_asg hz (pg_sub (pe_var hN hv hd hcd) hk set_list (by intro v; cases y <;> first | rfl | cases hns)) hs hw rfl) fun D σ H ⟨en, μ, θ, er, sr, h⟩ => by
    refine RSu.bind (m := ev G call v) (rel := VR X.K) (k := fun en y μ => match lookC en i with
      | none => none
      | some c => sbind (ev G call k en μ) fun x μ => match cellL μ c, x with
        | some xs, .int j => (ixN xs.length j).map fun n => .next en (μ.set c (.lst (xs.set n y)))
        | _, _ => none) er sr h fun w H1 θ1 d1 μ1 er1 st1 sr1 r1 h1 => ?_
    cases q : lookC en i with
    | none => rw [q] at h1; exact h1.elim
    | some c =>
      rw [q] at h1
      obtain ⟨v', e1, rv⟩ := cell_here er1 q
      · refine ⟨_, e1, ?_⟩
        refine RSu.bind (m := ev G call k) (rel := VR X.K) (k := fun en x μ => match cellL μ c, x with
          | some xs, .int j => (ixN xs.length j).map fun n => .next en (μ.set c (.lst (xs.set n d1)))
          | _, _ => none) er1 sr1 h1 fun y H2 θ2 d2 μ2 er2 st2 sr2 r2 h2 => ?_
        cases hc : cellL μ2 c with
        | none => rw [hc] at h2; exact h2.elim
        | some ds =>
          rw [hc] at h2
          cases r2 with
          | int j =>
            have h2 : Sw X.K T Ce W θ2 H2 ((ixN ds.length j).map fun n => SR.next en (μ2.set c (.lst (ds.set n d1)))) D := h2
            cases hn : ixN ds.length j with
            | none => rw [hn] at h2; exact h2.elim
            | some n =>
              rw [hn] at h2
              obtain ⟨a', vs, rfl, ea', ha', rs⟩ := cell_back st2 sr2 rv hc
              refine ⟨a', vs, j, n, rfl, rfl, ha', by rw [← rs.length]; exact hn, ?_⟩
              have stw := Step.write (H := H2) (k := c) (a := a') ⟨a', [], ea', .inl rfl⟩ (vs.set n w)
              exact h2 θ2 _ _ stw (sr2.write ea' ha' (rs.set (r1.step st2) n)) (er2.step stw)
          | _ => exact h2.elim
theorem ps_allocD {i : Nat} {es : MEs} {x : Str} {xs : List Expr} {p pos pos' : Pos} (hN : X.N.Nodup) (hi : X.N[i]? = some x) (hx : Loc X.env.scope x) (hf : X.fn x = true ∨ X.env.scope.names.lookup x = some .local) (hl : es.len ≤ 1000000) (h : PA X xs (RAs X.K T Ce G call W es)) : PS X (.Assign [.Name x pos'] (.List xs p) pos) ((RS X.K T Ce G call W) (.alloc i es)) :=
  PS.imp (ps_set hN hi hx (pe_lst h) rfl hf) fun D σ H ⟨en, μ, θ, er, sr, h⟩ => by
    have h : Sw X.K T Ce W θ H (sbind (evs G call es en μ) fun xs μ => some (.next (en.set i (some (.c μ.length))) (μ ++ [.lst xs]))) D := h
    have key : Wp X.K T Ce (VRs X.K) W σ θ H (evs G call es en μ) (fun x H1 => ∃ θ1 d μ1, evs G call es en μ = some (.ok d μ1) ∧ Step θ H θ1 H1 ∧ SRel X.K T H1 θ1 μ1 ∧ VRs X.K H1 θ1 d x ∧ Sw X.K T Ce W θ1 H1 (some (.next (en.set i (some (.c μ1.length))) (μ1 ++ [.lst d]))) D) := by
      cases q : evs G call es en μ with
      | none => rw [q] at h; exact h
      | some r =>
        rw [q] at h
        cases r with
        | ok a μ' => exact fun θ' H' v st sr rl => ⟨θ', a, μ', rfl, st, sr, rl, Sw.step h st⟩
        | exc c μ' => exact fun θ' H' st sr => h θ' H' σ st sr
    refine ⟨en, μ, θ, er, sr, key.mono fun vs H1 ⟨θ1, d, μ1, e, st1, sr1, r1, h1⟩ => ⟨by rw [← r1.length, evs_len es e]; exact line6 hl, fun p hp => ?_⟩⟩
    have stc := Step.cell sr1 hp (.lst vs)
    refine h1 _ _ _ stc (sr1.cell hp r1) (((er.step st1).step stc).set i (x := .c μ1.length) (.inr ⟨p, ⟨[], ?_⟩, rfl⟩))
    rw [← sr1.len]
    exact snoc_last
theorem ps_retCD {i : Nat} {x : Str} {p pos : Pos} (hN : X.N[i]? = some x) (hv : Vis X.env.scope x) (hd : (x == ("__debug__" : Str)) = false) (hcd : (x == ("__classdict__" : Str)) = false) : PS X (.Return (some (.Name x p)) pos) ((RS X.K T Ce G call W) (.retC i)) :=
  PS.imp (ps_ret (pe_var hN hv hd hcd)) fun D σ H ⟨en, μ, θ, er, sr, h⟩ => by
    have h : Sw X.K T Ce W θ H (match lookC en i with
      | none => none
      | some c => match cellL μ c with
        | some _ => some (.retC c μ)
        | none => none) D := h
    cases q : lookC en i with
    | none => rw [q] at h; exact h.elim
    | some c =>
      rw [q] at h
      simp only at h
      obtain ⟨v', e3, rv⟩ := cell_here er q
      cases hc : cellL μ c with
      | none => rw [hc] at h; exact h.elim
      | some ds =>
        rw [hc] at h
        obtain ⟨a', vs, rfl, ea', ha', rs⟩ := cell_back .refl sr rv hc
        exact ⟨_, e3, h θ H a' .refl sr ⟨[], ea'⟩⟩
theorem ps_raiseD {c : Nat} {x m : Str} {j : Nat} {p p2 pos pos2 : Pos} (hc : X.calm = true) (tk : L2N.Takes X W) (q : PySem.W.excIn X.K (Ce c) He.veBase "ValueError.__new__" = true) (gC : X.mg x = some (.ref (Ce c))) (kC : PySem.W.keepIn X.K (.ref (Ce c)) = true) (bC : PySem.W.subIn X.K (.ref (Ce c)) (.type "BaseException") = some true) (tC : PySem.W.typeIn X.K (.ref (Ce c)) = some (.type "type")) (hg : Gl X x)
    (hdb : (x == ("__debug__" : Str)) = false) : PS X (.Raise (some (.Call (.Name x p) [.Constant (.str m) j p2] [] pos)) none pos2) ((RS X.K T Ce G call W) (.raise c)) :=
  PS.imp (L2N.ps_raise hc tk (L2N.pmk_own PySem.F.excBase_ValueError q gC kC (raises_own bC tC) hg hdb)) fun D σ H ⟨en, μ, θ, er, sr, h⟩ => h θ H σ .refl sr
theorem ps_appD {i : Nat} {e : ME} {x : Str} {y : Expr} {p apos pos pos2 : Pos} (hN : X.N[i]? = some x) (hv : Vis X.env.scope x) (hd : (x == ("__debug__" : Str)) = false) (hcd : (x == ("__classdict__" : Str)) = false) (hs : notStar y = true) (hy : PE X y ((RE X.K T Ce G call W) e)) (hline : (apos.endLine == pos.line) = true) :
    PS X (.Expr (.Call (.Attribute (.Name x p) "append" apos) [y] [] pos) pos2) ((RS X.K T Ce G call W) (.app i e)) := by
  refine PS.imp (ps_expr (pe_bm PySem.F.plainAttrs_list PySem.F.slot_list_append PySem.F.type_list_append mt_append (pe_var hN hv hd hcd) (pa_cons hy pa_nil (star_cons hs)) rfl (by rw [star_cons hs]; rfl) hline (star_cons hs) rfl) rfl) fun D σ H ⟨en, μ, θ, er, sr, h⟩ => ?_
  have h : Sw X.K T Ce W θ H (match lookC en i with
    | none => none
    | some c => match cellL μ c with
      | none => none
      | some _ => sbind (ev G call e en μ) fun y μ => match cellL μ c with
        | some xs => if xs.length < 1000000 then some (.next en (μ.set c (.lst (xs ++ [y])))) else none
        | none => none) D := h
  cases q : lookC en i with
  | none => rw [q] at h; exact h.elim
  | some c =>
    rw [q] at h
    simp only at h
    obtain ⟨v', e1, rv⟩ := cell_here er q
    cases hc0 : cellL μ c with
    | none => rw [hc0] at h; exact h.elim
    | some ds0 =>
      rw [hc0] at h
      simp only at h
      obtain ⟨a0, vs0, rfl, ea0, ha0, rs0⟩ := cell_back .refl sr rv hc0
      refine ⟨_, e1, .inl ⟨rfl, _, SqL.of ha0⟩, ?_⟩
      refine RSu.bind (m := ev G call e) (rel := VR X.K) (k := fun en y μ => match cellL μ c with
        | some xs => if xs.length < 1000000 then some (.next en (μ.set c (.lst (xs ++ [y])))) else none
        | none => none) er sr h fun w H1 θ1 d1 μ1 er1 st1 sr1 r1 h1 => ?_
      cases hc : cellL μ1 c with
      | none => rw [hc] at h1; exact h1.elim
      | some ds =>
        rw [hc] at h1
        have h1 : Sw X.K T Ce W θ1 H1 (if ds.length < 1000000 then some (SR.next en (μ1.set c (.lst (ds ++ [d1])))) else none) D := h1
        obtain ⟨a', vs, e2, ea', ha', rs⟩ := cell_back st1 sr1 rv hc
        cases e2
        split at h1
        · rename_i hlt
          refine ⟨a0, vs, w, rfl, rfl, ha', by rw [← rs.length]; exact line6' hlt, ?_⟩
          have stw := Step.write (H := H1) (k := c) (a := a0) ⟨a0, [], ea', .inl rfl⟩ (vs ++ [w])
          exact h1 θ1 _ _ stw (sr1.write ea' ha' (rs.append (.cons r1 .nil))) (er1.step stw)
        · exact h1.elim
theorem ps_stkD {st : Stmt} : PS X st ((RS X.K T Ce G call W) .stk) := ⟨fun pins s σ H D I ⟨en, μ, θ, er, sr, h⟩ => h.elim⟩
theorem ERel.reset {K : PySem.W.Frag} {H : Hp} {θ : Th} {en : En} {σ : St} {i : Nat} {x : Val} {v : V} (h : ERel K H θ en σ) (hi : σ[i]? = some (some v)) (r : VRv K H θ x v) : ERel K H θ (en.set i (some x)) σ := by
  refine ⟨by simp [h.len], fun j y e => ?_⟩
  by_cases hj : i = j
  · subst hj
    by_cases hl : i < en.length
    · rw [List.getElem?_set_self hl] at e
      cases e
      exact ⟨v, hi, r⟩
    · rw [List.getElem?_eq_none (by simpa using hl)] at e
      cases e
  · rw [List.getElem?_set_ne hj] at e
    exact h.at_ j y e
theorem pss_frzD {i : Nat} {ss : List MS} {rest : List Stmt} (h2 : PSs X rest ((RSs X.K T Ce G call W) ss)) : PSs X rest ((RSs X.K T Ce G call W) (.frz i :: ss)) :=
  PSs.imp h2 fun D σ H ⟨en, μ, θ, er, sr, h⟩ => by
    have h : Sw X.K T Ce W θ H (snext (match lookC en i with
      | none => none
      | some c => match cellL μ c with
        | some xs => some (.next (en.set i (some (.d (.list xs)))) (μ.set c .dead))
        | none => none) fun en μ => exs G call ss en μ) D := h
    cases q : lookC en i with
    | none => rw [q] at h; exact h.elim
    | some c =>
      rw [q] at h
      simp only at h
      cases hc : cellL μ c with
      | none => rw [hc] at h; exact h.elim
      | some ds =>
        rw [hc] at h
        obtain ⟨v, e1, rv⟩ := cell_here er q
        obtain ⟨a, vs, rfl, ea, ha, rs⟩ := cell_back .refl sr rv hc
        have hk : c < μ.length := by rw [← sr.len]; exact (List.getElem?_eq_some_iff.mp ea).1
        exact ⟨_, _, _, (er.step (Step.froze c)).reset e1 (x := .d (.list ds)) (VR.froze sr ea ha rs), sr.froze hk, Sw.step h (Step.froze c)⟩
/-! several names at once -/
def setVs (is : List Nat) (vs : List Val) (en : En) : En := (is.zip vs).foldl (fun e p => e.set p.1 (some p.2)) en
def RGv (K : PySem.W.Frag) (is : List Nat) : TGs := fun vs σ H Q => ∃ ds en θ, VRvs K H θ ds vs ∧ ERel K H θ en σ ∧ ds.length = is.length ∧ ∀ σ', ERel K H θ (setVs is ds en) σ' → Q σ' H
theorem names_okV {N : List Str} {P : Str → Bool} (hN : X.N = N) (nd : X.N.Nodup) (hp : ∀ x, P x = true → L2.Loc X.env.scope x ∧ (X.fn x = true ∨ X.env.scope.names.lookup x = some .local)) : ∀ {is : List Nat} {xs : List Expr}, ckNames N P is xs = true →
    (assignEach xs X.env).length = xs.length ∧ (assignEach xs X.env).findIdx? (·.1) = none ∧ is.length = xs.length ∧ PGs X xs (RGv X.K is)
  | [], [], _ => ⟨rfl, rfl, rfl, ⟨fun pins s σ H vs us Q I r ⟨ds, en, θ, rd, er, hl, h⟩ => by
      cases ds with
      | nil => cases rd; exact pgs_nil.run pins s σ H _ us Q I r ⟨rfl, h _ er⟩
      | cons _ _ => cases hl⟩⟩
  | [], _ :: _, h => by cases h
  | _ :: _, [], h => by cases h
  | i :: is, x :: xs, h => by
    cases x with
    | Name x p =>
      have h : (decide (N[i]? = some x) && P x && ckNames N P is xs) = true := h
      simp only [Bool.and_eq_true, decide_eq_true_eq] at h
      obtain ⟨h1, h2, h3, h4⟩ := names_okV hN nd hp h.2
      obtain ⟨p1, p2⟩ := hp x h.1.2
      refine ⟨by show (assignEach xs X.env).length + 1 = _; rw [h1]; rfl, ?_, by simp [h3], ⟨fun pins s σ H vs us Q I r ⟨ds, en, θ, rd, er, hl, hq⟩ => ?_⟩⟩
      · show List.findIdx? (·.1) ((false, assign (.Name x p) X.env) :: assignEach xs X.env) = none
        rw [List.findIdx?_cons]
        simp [h2]
      · cases ds with
        | nil => cases hl
        | cons d ds =>
          cases rd with
          | @cons _ v _ vs rd rds =>
            refine (pgs_cons (pg_name (i := i) (pos := p) nd (by rw [hN]; exact h.1.1) p1 p2) h4).run pins s σ H _ us Q I r ⟨_, _, rfl, ?_⟩
            exact ⟨ds, en.set i (some d), θ, rds, er.set i rd, by simpa using hl, hq⟩
    | _ => cases h
theorem parRd {is : List Nat} {es : MEs} {D : Ends} {σ : St} {H : Hp} {K : PySem.W.Frag} (h : RS K T Ce G call W (.parV is es) D σ H) : RAv K T Ce G call W es σ H fun vs H1 => ∃ ds en θ μ, VRvs K H1 θ ds vs ∧ ERel K H1 θ en σ ∧ SRel K T H1 θ μ ∧ ds.length = is.length ∧ Sw K T Ce W θ H1 (some (.next (setVs is ds en) μ)) D := by
  obtain ⟨en, μ, θ, er, sr, h⟩ := h
  refine RSu.bind (m := evv G call es) (rel := VRvs K) (k := fun en vs μ => if vs.length = is.length then some (.next ((is.zip vs).foldl (fun e p => e.set p.1 (some p.2)) en) μ) else none) er sr h fun x H1 θ1 d1 μ1 er1 st1 sr1 r1 h1 => ?_
  by_cases hl : d1.length = is.length
  · rw [if_pos hl] at h1
    exact ⟨d1, en, θ1, μ1, r1, er1, sr1, hl, h1⟩
  · rw [if_neg hl] at h1
    exact h1.elim
theorem ps_parV2 {i j : Nat} {es : MEs} {x y : Str} {l r : Expr} {px py pt pt2 pos : Pos} {kt k2 : Nat} (hc : X.calm = true) (hN : X.N.Nodup) (hi : X.N[i]? = some x) (hj : X.N[j]? = some y) (hij : i ≠ j)
    (hx : X.env.scope.names.lookup x = some .local) (hy : X.env.scope.names.lookup y = some .local) (ha : PA X [l, r] (RAv X.K T Ce G call W es))
    (hw : swappedStores [.Tuple [.Name x px, .Name y py] kt pt] (.Tuple [l, r] k2 pt2) X.env = pure (some [x, y])) :
    PS X (.Assign [.Tuple [.Name x px, .Name y py] kt pt] (.Tuple [l, r] k2 pt2) pos) ((RS X.K T Ce G call W) (.parV [i, j] es)) :=
  PS.imp (ps_par hc hN hi hj hij hx hy ha hw) fun D σ H h => by
    obtain ⟨en, μ, θ, er, sr, hw⟩ := parRd h
    refine ⟨en, μ, θ, er, sr, hw.mono fun vs H1 ⟨ds, en, θ, μ, rv, er, sr, hl, hs⟩ => ?_⟩
    rcases ds with _ | ⟨d1, _ | ⟨d2, _ | ⟨d3, ds⟩⟩⟩ <;> try (cases hl; done)
    cases rv with
    | cons r1 rv => cases rv with
      | cons r2 rv =>
        cases rv
        exact ⟨_, _, rfl, hs θ H1 _ .refl sr ((er.set i r1).set j r2)⟩
theorem ps_parV3 {i j l : Nat} {es : MEs} {x y z : Str} {e1 e2 e3 : Expr} {px py pz pt pt2 pos : Pos} {kt k2 : Nat} (hc : X.calm = true) (hN : X.N.Nodup) (hi : X.N[i]? = some x) (hj : X.N[j]? = some y) (hl : X.N[l]? = some z) (hij : i ≠ j) (hil : i ≠ l) (hjl : j ≠ l)
    (hx : X.env.scope.names.lookup x = some .local) (hy : X.env.scope.names.lookup y = some .local) (hz : X.env.scope.names.lookup z = some .local) (ha : PA X [e1, e2, e3] (RAv X.K T Ce G call W es))
    (hw : swappedStores [.Tuple [.Name x px, .Name y py, .Name z pz] kt pt] (.Tuple [e1, e2, e3] k2 pt2) X.env = pure (some [x, y, z])) :
    PS X (.Assign [.Tuple [.Name x px, .Name y py, .Name z pz] kt pt] (.Tuple [e1, e2, e3] k2 pt2) pos) ((RS X.K T Ce G call W) (.parV [i, j, l] es)) :=
  PS.imp (ps_par3 hc hN hi hj hl hij hil hjl hx hy hz ha hw) fun D σ H h => by
    obtain ⟨en, μ, θ, er, sr, hw⟩ := parRd h
    refine ⟨en, μ, θ, er, sr, hw.mono fun vs H1 ⟨ds, en, θ, μ, rv, er, sr, hl, hs⟩ => ?_⟩
    rcases ds with _ | ⟨d1, _ | ⟨d2, _ | ⟨d3, _ | ⟨d4, ds⟩⟩⟩⟩ <;> try (cases hl; done)
    cases rv with
    | cons r1 rv => cases rv with
      | cons r2 rv => cases rv with
        | cons r3 rv =>
          cases rv
          exact ⟨_, _, _, rfl, hs θ H1 _ .refl sr (((er.set i r1).set j r2).set l r3)⟩
theorem ps_parVT {N : List Str} {P : Str → Bool} {is : List Nat} {es : MEs} {xs vs : List Expr} {pt pt2 pos : Pos} {kt k2 : Nat} (hN : X.N = N) (nd : X.N.Nodup) (hc : X.calm = true) (hp : ∀ x, P x = true → L2.Loc X.env.scope x ∧ (X.fn x = true ∨ X.env.scope.names.lookup x = some .local))
    (hn : ckNames N P is xs = true) (hl6 : is.length ≤ 1000000) (ha : PA X vs (RAv X.K T Ce G call W es))
    (hw : swappedStores [.Tuple xs kt pt] (.Tuple vs k2 pt2) X.env = pure none) : PS X (.Assign [.Tuple xs kt pt] (.Tuple vs k2 pt2) pos) ((RS X.K T Ce G call W) (.parV is es)) := by
  obtain ⟨h1, h2, h3, h4⟩ := names_okV hN nd hp hn
  refine PS.imp (ps_asg (pe_tup ha) (pg_tup (n := xs.length) hc h4 h1 h2) rfl hw rfl) fun D σ H h => ?_
  obtain ⟨en, μ, θ, er, sr, hw⟩ := parRd h
  refine ⟨en, μ, θ, er, sr, hw.mono fun vs H1 ⟨ds, en, θ, μ, rv, er, sr, hl, hs⟩ => ⟨by rw [← rv.length, hl]; exact line6 hl6, fun p hp => ?_⟩⟩
  have st := Step.new sr hp (.tup vs)
  refine ⟨p, vs, rfl, SqT.of upd_same, by rw [← rv.length, hl, h3], ds, en, θ, rv.step st, er.step st, hl, fun σ' er' => ?_⟩
  exact hs θ _ _ st (sr.new hp _) er'
end
end Mp

set_option maxRecDepth 100000
set_option maxHeartbeats 4000000
/-! Mp8: every statement is run as told. -/
namespace Mp
open PySem L2
def locB (sc : Sx) (x : Str) : Bool := decide (sc.1.names.lookup x = some .local) || decide (sc.1.names.lookup x = some .cell)
def notComp : Expr → Bool
  | .ListComp .. => false
  | .SetComp .. => false
  | .DictComp .. => false
  | _ => true
def notTup : Expr → Bool
  | .Tuple .. => false
  | _ => true
theorem sw_not {e : Expr} (h : notComp e = true) (t : Option Expr) (l : Nat) (env : Env) : swapsWith e t l env = pure false := by
  cases e <;> first | rfl | cases h
/-- does the store of a comprehension's list go first -/
def swB (sc : Scope) (t : Str) (tl : Nat) (scope : Scope) (vl : Nat) : Bool := decide (sc.names.lookup t = some .local) && (tl == vl) && !(scope.names.any fun (n, k) => n == t && (k == .local || k == .cell))
def swOk (sc : Scope) (x : Str) (px : Pos) : Expr → Bool
  | .ListComp _ _ scope pos => swB sc x px.line scope pos.line || !decide (sc.names.lookup x = some .local) || !(px.line == pos.line)
  | e => notComp e
/-- the two names of a swapped store -/
def parOk (sc : Scope) (x y : Str) (px py : Pos) (l r : Expr) : Bool :=
  decide (sc.names.lookup x = some .local) && decide (sc.names.lookup y = some .local) && !(decide (x = y)) && (py.line == px.line) && !([l, r].all (constantsAlone 8)) && !([l, r].all (foldedForSure 8)) && notStar l && notStar r
def parOk3 (sc : Scope) (x y z : Str) (px py pz : Pos) (l r m : Expr) : Bool :=
  decide (sc.names.lookup x = some .local) && decide (sc.names.lookup y = some .local) && decide (sc.names.lookup z = some .local) && !(decide (x = y)) && !(decide (x = z)) && !(decide (y = z)) && (py.line == px.line) && (pz.line == px.line) && !([l, r, m].all (constantsAlone 8)) && !([l, r, m].all (foldedForSure 8)) && notStar l && notStar r && notStar m
def ckPar (N : List Str) (sc : Sx) : List Nat → List Expr → List Expr → Bool
  | [i, j], [.Name x px, .Name y py], [l, r] => decide (N[i]? = some x) && decide (N[j]? = some y) && !(decide (i = j)) && parOk sc.1 x y px py l r || ckNames N (locB sc) [i, j] [.Name x px, .Name y py] && (!decide (sc.1.names.lookup x = some .local) || !decide (sc.1.names.lookup y = some .local)) && notStar l && notStar r
  | [i, j, k], [.Name x px, .Name y py, .Name z pz], [l, r, m] => decide (N[i]? = some x) && decide (N[j]? = some y) && decide (N[k]? = some z) && !(decide (i = j)) && !(decide (i = k)) && !(decide (j = k)) && parOk3 sc.1 x y z px py pz l r m
  | [i, j, k, n], [x, y, z, u], [_, _, _, _] => ckNames N (locB sc) [i, j, k, n] [x, y, z, u]
  | _, _, _ => false
mutual
def ckS (nm : Nm) (N : List Str) (sc : Sx) : MS → Stmt → Bool
  | .asg (.n i) e, .Assign [.Name x px] v _ => decide (N[i]? = some x) && locB sc x && swOk sc.1 x px v && ckE nm N sc e v
  | .asg (.t is) e, .Assign [.Tuple xs _ _] v _ => ckNames N (locB sc) is xs && notComp v && notTup v && ckE nm N sc e v
  | .par i j a b, .Assign [.Tuple [.Name x px, .Name y py] _ _] (.Tuple [l, r] _ _) _ => decide (N[i]? = some x) && decide (N[j]? = some y) && !(decide (i = j)) && parOk sc.1 x y px py l r && ckE nm N sc a l && ckE nm N sc b r
  | .setC i k v, .Assign [.Subscript (.Name x _) y _] z _ => isVar N sc i x && notSlice y && notComp z && ckE nm N sc k y && ckE nm N sc v z
  | .app i e, .Expr (.Call (.Attribute (.Name x _) a apos) [y] [] pos) _ => decide (a = ("append" : Str)) && (apos.endLine == pos.line) && isVar N sc i x && notStar y && ckE nm N sc e y
  | .alloc i es, .Assign [.Name x _] (.List xs _) _ => decide (N[i]? = some x) && locB sc x && decide (es.len ≤ 1000000) && ckEs nm N sc es xs
  | .expr e, .Expr x _ => notComp x && ckE nm N sc e x
  | .ret e, .Return (some x) _ => ckE nm N sc e x
  | .retN, .Return none _ => true
  | .retC i, .Return (some (.Name x _)) _ => isVar N sc i x
  | .iff c a b, .If t x y _ => notIte c && ckE nm N sc c t && ckSs nm N sc a x && ckSs nm N sc b y
  | .whl c b _, .While t x [] _ => notIte c && ckE nm N sc c t && ckSs nm N sc b x
  | .fr t it b, .For tg iter x [] _ => ckT N (locB sc) t tg && notSet iter && ckI nm N sc (isTupE tg) it iter && ckSs nm N sc b x
  | .raise c, .Raise (some (.Call (.Name x _) [.Constant (.str _) _ _] [] _)) none _ => decide (nm.x c = some x) && isGl sc x
  | .pass, .Pass _ => true
  | .stk, _ => true
  | .parV is es, .Assign [.Tuple xs _ _] (.Tuple vs _ _) _ => ckPar N sc is xs vs && ckEv nm N sc es vs
  | _, _ => false
def ckSs (nm : Nm) (N : List Str) (sc : Sx) : List MS → List Stmt → Bool
  | [], [] => true
  | .frz _ :: ss, xs => ckSs nm N sc ss xs
  | s :: ss, x :: xs => ckS nm N sc s x && ckSs nm N sc ss xs
  | _, _ => false
end
structure SCok (T : List (Addr × Str)) (Ce : Nat → Addr) (G : Nat → Option D) (call : Nat → List Val → M D) (nm : Nm) (N : List Str) (k : Nat) (X : Cx) (sc : Sx) (W : WX) : Prop where
  c : Cok T Ce G call nm N k X sc W
  fn : ∀ x, X.fn x = true
  po : PassesOwn (model X.prog X.w) X.A X.env X.xe
  kind : sc.1.kind = .function
  ex : ∀ (c : Nat) (x : Str), nm.x c = some x → X.mg x = some (.ref (Ce c)) ∧ PySem.W.excIn X.K (Ce c) He.veBase "ValueError.__new__" = true ∧ PySem.W.keepIn X.K (.ref (Ce c)) = true ∧ PySem.W.subIn X.K (.ref (Ce c)) (.type "BaseException") = some true ∧ PySem.W.typeIn X.K (.ref (Ce c)) = some (.type "type")
section
variable {T : List (Addr × Str)} {Ce : Nat → Addr} {G : Nat → Option D} {call : Nat → List Val → M D} {nm : Nm} {N : List Str} {k : Nat}
theorem loc_ok {X : Cx} {sc : Sx} {W : WX} (c : Cok T Ce G call nm N k X sc W) {x : Str} (h : locB sc x = true) : L2.Loc X.env.scope x := by
  unfold locB at h
  rw [Bool.or_eq_true, decide_eq_true_eq, decide_eq_true_eq] at h
  unfold L2.Loc
  rw [c.sc]
  exact h
theorem loc_at {X : Cx} {sc : Sx} {W : WX} (c : SCok T Ce G call nm N k X sc W) (x : Str) (h : locB sc x = true) : L2.Loc X.env.scope x ∧ (X.fn x = true ∨ X.env.scope.names.lookup x = some .local) := ⟨loc_ok c.c h, .inl (c.fn x)⟩
theorem block_fn {env : Env} (h : env.scope.kind = .function) : env.blockKind = .function := by unfold Env.blockKind; rw [h]; rfl
theorem par_sw {env : Env} {x y : Str} {px py pt pt2 : Pos} {kt k2 : Nat} {l r : Expr} {sc : Scope} (hs : env.scope = sc) (hk : sc.kind = .function) (h : parOk sc x y px py l r = true) :
    swappedStores [.Tuple [.Name x px, .Name y py] kt pt] (.Tuple [l, r] k2 pt2) env = pure (some [x, y]) := by
  unfold parOk at h
  simp only [Bool.and_eq_true, decide_eq_true_eq, Bool.not_eq_true', decide_eq_false_iff_not] at h
  obtain ⟨⟨⟨⟨⟨⟨⟨h1, h2⟩, h3⟩, h4⟩, h5⟩, h6⟩, h7⟩, h8⟩ := h
  have kx : env.kindOf x = some .local := by show env.scope.names.lookup x = _; rw [hs]; exact h1
  have ky : env.kindOf y = some .local := by show env.scope.names.lookup y = _; rw [hs]; exact h2
  have hb : env.blockKind = .function := block_fn (by rw [hs]; exact hk)
  have hxy : (x == y) = false := by simpa using h3
  have hyx : (y == x) = false := by
    have : ¬ y = x := fun e => h3 e.symm
    simpa using this
  have h4' : py.line = px.line := by simpa using h4
  unfold swappedStores
  simp only [List.length_cons, List.length_nil, hb, List.any_cons, List.any_nil, Bool.or_false, List.head?_cons, Option.map_some, Option.getD_some, List.filterMap_cons, List.filterMap_nil, kx, ky, Expr.pos, h4', h5, h6]
  simp [List.eraseDups_cons, hyx, h3, fun e => h3 (Eq.symm e)]
  intro z
  exfalso
  rcases z with z | z
  · cases l <;> first | (cases h7; done) | (cases z; done)
  · cases r <;> first | (cases h8; done) | (cases z; done)
theorem sw_comp {env : Env} {elt : Expr} {gs : List Comprehension} {scope sc : Scope} {pos py : Pos} {y : Str} {l : Nat} (hs : env.scope = sc) (h : (!decide (sc.names.lookup y = some .local) || !(py.line == pos.line)) = true) : swapsWith (.ListComp elt gs scope pos) (some (.Name y py)) l env = pure false := by
  unfold swapsWith
  rw [Bool.or_eq_true, Bool.not_eq_true', Bool.not_eq_true', decide_eq_false_iff_not] at h
  have e : (env.blockKind == .function && env.kindOf y == some .local && py.line == pos.line && !(scope.names.any fun (n, k) => n == y && (k == .local || k == .cell))) = false := by
    rcases h with h | h
    · have : (env.kindOf y == some .local) = false := by
        have : ¬ env.kindOf y = some .local := by show ¬ env.scope.names.lookup y = _; rw [hs]; exact h
        simpa using this
      rw [this]; simp
    · rw [h]; simp
  show (pure (env.blockKind == .function && env.kindOf y == some .local && py.line == pos.line && !(scope.names.any fun (n, k) => n == y && (k == .local || k == .cell))) : Sem Bool) = pure false
  rw [e]
/-- the parts of a comprehension -/
theorem ps_asgLc {i : Nat} {me : ME} {X : Cx} {sc : Sx} {W : WX} {y : Str} {py pos spos : Pos} {j : Nat} {elt : Expr} {gs : List Comprehension} {scope : Scope} (c : SCok T Ce G call nm N k X sc W) (hi : N[i]? = some y) (hsw : swB sc.1 y py.line scope pos.line = true) (h : ckE nm N sc me (.ListComp elt gs scope pos) = true) :
    PS X (.Assign [.Name y py] (.ListComp elt gs scope pos) spos) (RS X.K T Ce G call W (.asg (.n i) me)) := by
  unfold swB at hsw
  simp only [Bool.and_eq_true, decide_eq_true_eq, Bool.not_eq_true'] at hsw
  have hk : X.env.scope.kind = .function := by rw [c.c.sc]; exact c.kind
  have hy : X.env.scope.names.lookup y = some .local := by rw [c.c.sc]; exact hsw.1.1
  have sw : swapsWith (.ListComp elt gs scope pos) (some (.Name y py)) spos.line X.env = pure true := sw_true hk hy hsw.1.2 hsw.2
  have hN : X.N[i]? = some y := by rw [c.c.n]; exact hi
  cases me with
  | comp i' it a =>
    rcases gs with _ | ⟨⟨tg, iter, ifs, as⟩, _ | ⟨g2, gs⟩⟩
    · cases h
    · cases tg with
      | Name x px =>
        rcases ifs with _ | ⟨t, _ | ⟨t2, ts⟩⟩ <;> try (cases h; done)
        have h : (decide (as = 0) && decide (N[i']? = some x) && blkC N sc.1 scope [(x, i')] && decide ((relS scope sc.1).names.lookup x = some .local) && notSet iter && ckI nm N sc false it iter && ckE nm N (relS scope sc.1, false) a elt) = true := h
        simp only [Bool.and_eq_true, decide_eq_true_eq] at h
        obtain ⟨⟨⟨⟨⟨⟨rfl, h1⟩, h2⟩, h3⟩, h4⟩, h5⟩, h6⟩ := h
        have okB : BlkOk X.N X.env.scope scope [(x, i')] := blkOk_by (by rw [c.c.n, c.c.sc]; exact h2)
        have hloc : ∀ (s : Shared) (H : Hp) (C : Addr) (cl : List (Str × Addr)) (fp : List Addr), (X.blk s H scope (compEnvC scope cl C X.env) fp).env.scope.names.lookup x = some .local := fun s H C cl fp => by
          show (relS scope X.env.scope).names.lookup x = _
          rw [c.c.sc]; exact h3
        exact PS.imp (ps_setLc (i := i) (own := [(x, i')]) (g := gName i') (tt := tYes) c.c.calm c.c.nd hN hy sw (soundI it c.c h5 (fun z => Bool.noConfusion z)) okB
          (fun s H C cl fp => pg_name (i := i') c.c.nd (by show X.N[i']? = _; rw [c.c.n]; exact h1) (.inl (hloc s H C cl fp)) (.inr (hloc s H C cl fp)))
          (fun s H C cl fp => pts_nil) (fun s H C cl fp => soundE a (c.c.blk s H C cl fp scope) h6) (fun x => fold_ok h4 _ _)) fun D σ H q => compRd (asgRd q)
      | _ => rcases ifs with _ | ⟨t, _ | ⟨t2, ts⟩⟩ <;> cases h
    · cases tg <;> rcases ifs with _ | ⟨t, _ | ⟨t2, ts⟩⟩ <;> cases h
  | compIf i' it d a =>
    rcases gs with _ | ⟨⟨tg, iter, ifs, as⟩, _ | ⟨g2, gs⟩⟩
    · cases h
    · cases tg with
      | Name x px =>
        rcases ifs with _ | ⟨t, _ | ⟨t2, ts⟩⟩ <;> try (cases h; done)
        have h : (decide (as = 0) && decide (N[i']? = some x) && blkC N sc.1 scope [(x, i')] && decide ((relS scope sc.1).names.lookup x = some .local) && notSet iter && ckI nm N sc false it iter && notIte d && ckE nm N (relS scope sc.1, false) d t && ckE nm N (relS scope sc.1, false) a elt) = true := h
        simp only [Bool.and_eq_true, decide_eq_true_eq] at h
        obtain ⟨⟨⟨⟨⟨⟨⟨⟨rfl, h1⟩, h2⟩, h3⟩, h4⟩, h5⟩, h7⟩, h8⟩, h6⟩ := h
        have okB : BlkOk X.N X.env.scope scope [(x, i')] := blkOk_by (by rw [c.c.n, c.c.sc]; exact h2)
        have hloc : ∀ (s : Shared) (H : Hp) (C : Addr) (cl : List (Str × Addr)) (fp : List Addr), (X.blk s H scope (compEnvC scope cl C X.env) fp).env.scope.names.lookup x = some .local := fun s H C cl fp => by
          show (relS scope X.env.scope).names.lookup x = _
          rw [c.c.sc]; exact h3
        exact PS.imp (ps_setLc (i := i) (own := [(x, i')]) (g := gName i') c.c.calm c.c.nd hN hy sw (soundI it c.c h5 (fun z => Bool.noConfusion z)) okB
          (fun s H C cl fp => pg_name (i := i') c.c.nd (by show X.N[i']? = _; rw [c.c.n]; exact h1) (.inl (hloc s H C cl fp)) (.inr (hloc s H C cl fp)))
          (fun s H C cl fp => pts_one (soundT d h7 (c.c.blk s H C cl fp scope) h8)) (fun s H C cl fp => soundE a (c.c.blk s H C cl fp scope) h6) (fun x => fold_ok h4 _ _)) fun D σ H q => compIfRd (asgRd q)
      | _ => rcases ifs with _ | ⟨t, _ | ⟨t2, ts⟩⟩ <;> cases h
    · cases tg <;> rcases ifs with _ | ⟨t, _ | ⟨t2, ts⟩⟩ <;> cases h
  | compT t it a =>
    rcases gs with _ | ⟨⟨tg, iter, ifs, as⟩, _ | ⟨g2, gs⟩⟩
    · cases h
    · rcases ifs with _ | ⟨t1, _ | ⟨t2, ts⟩⟩ <;> try (cases h; done)
      have h : (decide (as = 0) && blkC N sc.1 scope (ownOf N t.slots) && ckT N (fun x => decide ((relS scope sc.1).names.lookup x = some .local)) t tg && notSet iter && ckI nm N sc (isTupE tg) it iter && ckE nm N (relS scope sc.1, false) a elt) = true := h
      simp only [Bool.and_eq_true, decide_eq_true_eq] at h
      obtain ⟨⟨⟨⟨⟨rfl, h2⟩, h3⟩, h4⟩, h5⟩, h6⟩ := h
      have okB : BlkOk X.N X.env.scope scope (ownOf N t.slots) := blkOk_by (by rw [c.c.n, c.c.sc]; exact h2)
      refine PS.imp (ps_setLc (i := i) (own := ownOf N t.slots) (g := RG X.K t) (tt := tYes) (te := RE X.K T Ce G call WF a) c.c.calm c.c.nd hN hy sw (soundI it c.c h5 isTup_of) okB
        (fun s H C cl fp => blk_tgt c.c h3 s H C cl fp)
        (fun s H C cl fp => pts_nil) (fun s H C cl fp => soundE a (c.c.blk s H C cl fp scope) h6) (fun x => fold_ok h4 _ _)) fun D σ H q => ?_
      rw [own_slots]
      exact compTRd (fun v σ H R q => q) (asgRd q)
    · rcases ifs with _ | ⟨t1, _ | ⟨t2, ts⟩⟩ <;> cases h
  | compIfT t it d a =>
    rcases gs with _ | ⟨⟨tg, iter, ifs, as⟩, _ | ⟨g2, gs⟩⟩
    · cases h
    · rcases ifs with _ | ⟨t1, _ | ⟨t2, ts⟩⟩ <;> try (cases h; done)
      have h : (decide (as = 0) && blkC N sc.1 scope (ownOf N t.slots) && ckT N (fun x => decide ((relS scope sc.1).names.lookup x = some .local)) t tg && notSet iter && ckI nm N sc (isTupE tg) it iter && notIte d && ckE nm N (relS scope sc.1, false) d t1 && ckE nm N (relS scope sc.1, false) a elt) = true := h
      simp only [Bool.and_eq_true, decide_eq_true_eq] at h
      obtain ⟨⟨⟨⟨⟨⟨⟨rfl, h2⟩, h3⟩, h4⟩, h5⟩, h7⟩, h8⟩, h6⟩ := h
      have okB : BlkOk X.N X.env.scope scope (ownOf N t.slots) := blkOk_by (by rw [c.c.n, c.c.sc]; exact h2)
      refine PS.imp (ps_setLc (i := i) (own := ownOf N t.slots) (g := RG X.K t) (tt := RT X.K T Ce G call WF d) (te := RE X.K T Ce G call WF a) c.c.calm c.c.nd hN hy sw (soundI it c.c h5 isTup_of) okB
        (fun s H C cl fp => blk_tgt c.c h3 s H C cl fp)
        (fun s H C cl fp => pts_one (soundT d h7 (c.c.blk s H C cl fp scope) h8)) (fun s H C cl fp => soundE a (c.c.blk s H C cl fp scope) h6) (fun x => fold_ok h4 _ _)) fun D σ H q => ?_
      rw [own_slots]
      exact compIfTRd (fun v σ H R q => q) (asgRd q)
    · rcases ifs with _ | ⟨t1, _ | ⟨t2, ts⟩⟩ <;> cases h
  | stk => exact ⟨fun pins s σ H D I ⟨en, μ, θ, er, sr, h⟩ => h.elim⟩
  | binC op _ _ => cases op <;> cases h
  | _ => cases h
theorem par_sw3 {env : Env} {x y z : Str} {px py pz pt pt2 : Pos} {kt k2 : Nat} {l r m : Expr} {sc : Scope} (hs : env.scope = sc) (hk : sc.kind = .function) (h : parOk3 sc x y z px py pz l r m = true) :
    swappedStores [.Tuple [.Name x px, .Name y py, .Name z pz] kt pt] (.Tuple [l, r, m] k2 pt2) env = pure (some [x, y, z]) := by
  unfold parOk3 at h
  simp only [Bool.and_eq_true, decide_eq_true_eq, Bool.not_eq_true', decide_eq_false_iff_not] at h
  obtain ⟨⟨⟨⟨⟨⟨⟨⟨⟨⟨⟨⟨h1, h2⟩, h3⟩, n1⟩, n2⟩, n3⟩, l1⟩, l2⟩, h5⟩, h6⟩, s1⟩, s2⟩, s3⟩ := h
  have kx : env.kindOf x = some .local := by show env.scope.names.lookup x = _; rw [hs]; exact h1
  have ky : env.kindOf y = some .local := by show env.scope.names.lookup y = _; rw [hs]; exact h2
  have kz : env.kindOf z = some .local := by show env.scope.names.lookup z = _; rw [hs]; exact h3
  have hb : env.blockKind = .function := block_fn (by rw [hs]; exact hk)
  have l1' : py.line = px.line := by simpa using l1
  have l2' : pz.line = px.line := by simpa using l2
  have ne : ∀ {u v : Str}, ¬ u = v → (u == v) = false := fun h => by simpa using h
  unfold swappedStores
  simp only [List.length_cons, List.length_nil, hb, List.any_cons, List.any_nil, Bool.or_false, List.head?_cons, Option.map_some, Option.getD_some, List.filterMap_cons, List.filterMap_nil, kx, ky, kz, Expr.pos, l1', l2', h5, h6]
  simp [List.eraseDups_cons, List.filter_cons, ne (fun e => n1 (Eq.symm e)), ne (fun e => n2 (Eq.symm e)), ne (fun e => n3 (Eq.symm e)), n1, n2, n3, fun e => n1 (Eq.symm e), fun e => n2 (Eq.symm e), fun e => n3 (Eq.symm e)]
  intro z
  exfalso
  rcases z with z | z | z
  · cases l <;> first | (cases s1; done) | (cases z; done)
  · cases r <;> first | (cases s2; done) | (cases z; done)
  · cases m <;> first | (cases s3; done) | (cases z; done)
theorem par_no2 {env : Env} {x y : Str} {px py pt pt2 : Pos} {kt k2 : Nat} {l r : Expr} {sc : Scope} (hs : env.scope = sc) (hk : sc.kind = .function) (h : (!decide (sc.names.lookup x = some .local) || !decide (sc.names.lookup y = some .local)) = true) (s1 : notStar l = true) (s2 : notStar r = true) :
    swappedStores [.Tuple [.Name x px, .Name y py] kt pt] (.Tuple [l, r] k2 pt2) env = pure none := by
  have hb : env.blockKind = .function := block_fn (by rw [hs]; exact hk)
  rw [Bool.or_eq_true, Bool.not_eq_true', Bool.not_eq_true', decide_eq_false_iff_not, decide_eq_false_iff_not] at h
  have kk : ∀ u, ¬ sc.names.lookup u = some .local → (env.kindOf u == some .local) = false := fun u hu => by
    have : ¬ env.kindOf u = some .local := by show ¬ env.scope.names.lookup u = _; rw [hs]; exact hu
    simpa using this
  unfold swappedStores
  simp only [List.length_cons, List.length_nil, hb, List.any_cons, List.any_nil, Bool.or_false, List.head?_cons, Option.map_some, Option.getD_some, List.filterMap_cons, List.filterMap_nil, Expr.pos]
  rcases h with h | h
  · simp only [kk x h, Bool.false_and, Bool.false_eq_true, if_false]
    repeat' split
    all_goals first | rfl | (exfalso; simp_all; done) | skip
  · simp only [kk y h, Bool.false_and, Bool.false_eq_true, if_false]
    repeat' split
    all_goals first | rfl | (exfalso; simp_all; done) | skip
theorem par_ok {X : Cx} {sc : Sx} {W : WX} (c : SCok T Ce G call nm N k X sc W) {is : List Nat} {es : MEs} {xs vs : List Expr} {kt k2 : Nat} {pt pt2 pos : Pos} (h : ckPar N sc is xs vs = true) (ha : PA X vs (RAv X.K T Ce G call W es)) :
    PS X (.Assign [.Tuple xs kt pt] (.Tuple vs k2 pt2) pos) (RS X.K T Ce G call W (.parV is es)) := by
  unfold ckPar at h
  split at h
  · rename_i i j x px y py l r
    rw [Bool.or_eq_true] at h
    rcases h with h | h
    · simp only [Bool.and_eq_true, decide_eq_true_eq, Bool.not_eq_true', decide_eq_false_iff_not] at h
      obtain ⟨⟨⟨h1, h2⟩, h3⟩, h4⟩ := h
      have hp := h4
      unfold parOk at hp
      simp only [Bool.and_eq_true, decide_eq_true_eq] at hp
      exact ps_parV2 c.c.calm c.c.nd (by rw [c.c.n]; exact h1) (by rw [c.c.n]; exact h2) h3 (by rw [c.c.sc]; exact hp.1.1.1.1.1.1.1) (by rw [c.c.sc]; exact hp.1.1.1.1.1.1.2) ha (par_sw c.c.sc c.kind h4)
    · rw [Bool.and_eq_true, Bool.and_eq_true, Bool.and_eq_true] at h
      exact ps_parVT (N := N) (P := locB sc) c.c.n c.c.nd c.c.calm (loc_at c) h.1.1.1 (by show 2 ≤ 1000000; decide) ha (par_no2 c.c.sc c.kind h.1.1.2 h.1.2 h.2)
  · rename_i i j k x px y py z pz l r m
    simp only [Bool.and_eq_true, decide_eq_true_eq, Bool.not_eq_true', decide_eq_false_iff_not] at h
    obtain ⟨⟨⟨⟨⟨⟨h1, h2⟩, h3⟩, n1⟩, n2⟩, n3⟩, h4⟩ := h
    have hp := h4
    unfold parOk3 at hp
    simp only [Bool.and_eq_true, decide_eq_true_eq] at hp
    exact ps_parV3 c.c.calm c.c.nd (by rw [c.c.n]; exact h1) (by rw [c.c.n]; exact h2) (by rw [c.c.n]; exact h3) n1 n2 n3 (by rw [c.c.sc]; exact hp.1.1.1.1.1.1.1.1.1.1.1.1) (by rw [c.c.sc]; exact hp.1.1.1.1.1.1.1.1.1.1.1.2) (by rw [c.c.sc]; exact hp.1.1.1.1.1.1.1.1.1.1.2) ha (par_sw3 c.c.sc c.kind h4)
  · exact ps_parVT (N := N) (P := locB sc) c.c.n c.c.nd c.c.calm (loc_at c) h (by show 4 ≤ 1000000; decide) ha rfl
  · cases h
theorem asg1 {i : Nat} {e : ME} {X : Cx} {sc : Sx} {W : WX} {x : Str} {px pos : Pos} {v : Expr} (c : SCok T Ce G call nm N k X sc W) (h1 : N[i]? = some x) (h2 : locB sc x = true) (h3 : swOk sc.1 x px v = true) (h4 : ckE nm N sc e v = true) : PS X (.Assign [.Name x px] v pos) (RS X.K T Ce G call W (.asg (.n i) e)) := by
  have plain : swapsWith v (some (.Name x px)) pos.line X.env = pure false → PS X (.Assign [.Name x px] v pos) (RS X.K T Ce G call W (.asg (.n i) e)) := fun hs =>
    PS.imp (ps_set c.c.nd (by rw [c.c.n]; exact h1) (loc_ok c.c h2) (soundE e c.c h4) hs (.inl (c.fn x))) fun D σ H q => asgRd q
  by_cases hc : notComp v = true
  · exact plain (sw_not hc _ _ _)
  · cases v with
    | ListComp elt gs scope p =>
      have h3 : (swB sc.1 x px.line scope p.line || !decide (sc.1.names.lookup x = some .local) || !(px.line == p.line)) = true := h3
      by_cases hb : swB sc.1 x px.line scope p.line = true
      · exact ps_asgLc (j := 0) c h1 hb h4
      · have hb : swB sc.1 x px.line scope p.line = false := by simpa using hb
        rw [hb, Bool.false_or] at h3
        exact plain (sw_comp c.c.sc h3)
    | SetComp => cases h3
    | DictComp => cases h3
    | _ => exact absurd rfl hc
def isFrz : MS → Bool
  | .frz _ => true
  | _ => false
theorem ckSs_cons {nm : Nm} {N : List Str} {sc : Sx} {s : MS} {ss : List MS} {x : Stmt} {xs : List Stmt} (h : isFrz s = false) : ckSs nm N sc (s :: ss) (x :: xs) = (ckS nm N sc s x && ckSs nm N sc ss xs) := by
  cases s <;> first | rfl | cases h
theorem ckSs_nil {nm : Nm} {N : List Str} {sc : Sx} {s : MS} {ss : List MS} (h : isFrz s = false) : ckSs nm N sc (s :: ss) [] = false := by
  cases s <;> first | rfl | cases h
mutual
theorem soundS : ∀ (s : MS) {X : Cx} {sc : Sx} {W : WX} {st : Stmt}, SCok T Ce G call nm N k X sc W → ckS nm N sc s st = true → PS X st (RS X.K T Ce G call W s)
  | .asg (.n i) e, X, sc, W, st, c, h => by
    cases st with
    | Assign ts v pos =>
      rcases ts with _ | ⟨t, _ | ⟨t2, ts⟩⟩ <;> try (cases h; done)
      · cases t with
        | Name x px =>
          have h : (decide (N[i]? = some x) && locB sc x && swOk sc.1 x px v && ckE nm N sc e v) = true := h
          simp only [Bool.and_eq_true, decide_eq_true_eq] at h
          exact asg1 c h.1.1.1 h.1.1.2 h.1.2 h.2
        | _ => cases h
      · cases t <;> cases h
    | _ => cases h
  | .asg (.t is) e, X, sc, W, st, c, h => by
    cases st with
    | Assign ts v pos =>
      rcases ts with _ | ⟨t, _ | ⟨t2, ts⟩⟩ <;> try (cases h; done)
      · cases t with
        | Tuple xs kk p =>
          have h : (ckNames N (locB sc) is xs && notComp v && notTup v && ckE nm N sc e v) = true := h
          simp only [Bool.and_eq_true] at h
          refine ps_asgTD (soundE e c.c h.2) (tgt_ok (N := N) c.c.n c.c.nd c.c.calm (loc_at c) (t := .t is) (tg := .Tuple xs kk p) h.1.1.1) (sw_not h.1.1.2 (some (.Tuple xs kk p)) pos.line X.env) ?_ rfl
          have := h.1.2
          cases v <;> first | rfl | cases this
        | _ => cases h
      · cases t <;> cases h
    | _ => cases h
  | .asg (.tt ts) e, X, sc, W, st, c, h => by
    cases st with
    | Assign ts v pos =>
      rcases ts with _ | ⟨t, _ | ⟨t2, ts⟩⟩ <;> cases h
    | _ => cases h
  | .par i j a b, X, sc, W, st, c, h => by
    cases st with
    | Assign ts v pos =>
      rcases ts with _ | ⟨t, _ | ⟨t2, ts⟩⟩ <;> try (cases h; done)
      · cases t with
        | Tuple xs kt pt =>
          rcases xs with _ | ⟨x, _ | ⟨y, _ | ⟨z, zs⟩⟩⟩ <;> try (cases h; done)
          all_goals try (cases x <;> cases h; done)
          all_goals try (cases x <;> cases y <;> cases h; done)
          cases x with
          | Name x px =>
            cases y with
            | Name y py =>
              cases v with
              | Tuple vs k2 pt2 =>
                rcases vs with _ | ⟨l, _ | ⟨r, _ | ⟨z, zs⟩⟩⟩ <;> try (cases h; done)
                have h : (decide (N[i]? = some x) && decide (N[j]? = some y) && !(decide (i = j)) && parOk sc.1 x y px py l r && ckE nm N sc a l && ckE nm N sc b r) = true := h
                simp only [Bool.and_eq_true, decide_eq_true_eq, Bool.not_eq_true', decide_eq_false_iff_not] at h
                obtain ⟨⟨⟨⟨⟨h1, h2⟩, h3⟩, h4⟩, h5⟩, h6⟩ := h
                have hp := h4
                unfold parOk at hp
                simp only [Bool.and_eq_true, decide_eq_true_eq] at hp
                exact ps_parD c.c.calm c.c.nd (by rw [c.c.n]; exact h1) (by rw [c.c.n]; exact h2) h3 (by rw [c.c.sc]; exact hp.1.1.1.1.1.1.1) (by rw [c.c.sc]; exact hp.1.1.1.1.1.1.2) (soundE a c.c h5) (soundE b c.c h6) hp.1.2 hp.2 (par_sw c.c.sc c.kind h4)
              | _ => cases h
            | _ => cases h
          | _ => cases h
        | _ => cases h
      · cases t <;> try (cases h; done)
        rename_i xs kt pt
        rcases xs with _ | ⟨x, _ | ⟨y, _ | ⟨z, zs⟩⟩⟩ <;> try (cases h; done)
        all_goals (cases x <;> try (cases h; done))
        all_goals (cases y <;> try (cases h; done))
        all_goals (cases v <;> try (cases h; done))
        all_goals (rename_i vs k2 pt2; rcases vs with _ | ⟨l, _ | ⟨r, _ | ⟨z, zs⟩⟩⟩ <;> cases h)
    | _ => cases h
  | .setC i kk v, X, sc, W, st, c, h => by
    cases st with
    | Assign ts z pos =>
      rcases ts with _ | ⟨t, _ | ⟨t2, ts⟩⟩ <;> try (cases h; done)
      · cases t with
        | Subscript x y p2 =>
          cases x with
          | Name x p =>
            have h : (isVar N sc i x && notSlice y && notComp z && ckE nm N sc kk y && ckE nm N sc v z) = true := h
            simp only [Bool.and_eq_true] at h
            obtain ⟨h1, h2, h3, h4⟩ := var_ok c.c h.1.1.1.1
            exact ps_setCD h1 h2 h3 h4 h.1.1.1.2 (soundE kk c.c h.1.2) (soundE v c.c h.2) (sw_not h.1.1.2 (some (.Subscript (.Name x p) y p2)) pos.line X.env) rfl
          | _ => cases h
        | _ => cases h
      · cases t with
        | Subscript x y p2 => cases x <;> cases h
        | _ => cases h
    | _ => cases h
  | .app i e, X, sc, W, st, c, h => by
    cases st with
    | Expr v pos2 =>
      cases v with
      | Call fn args kws pos =>
        cases fn with
        | Attribute o a apos =>
          cases o with
          | Name x p =>
            rcases args with _ | ⟨y, _ | ⟨z, zs⟩⟩ <;> rcases kws with _ | ⟨kw, kws⟩ <;> try (cases h; done)
            have h : (decide (a = ("append" : Str)) && (apos.endLine == pos.line) && isVar N sc i x && notStar y && ckE nm N sc e y) = true := h
            simp only [Bool.and_eq_true, decide_eq_true_eq] at h
            obtain ⟨⟨⟨⟨rfl, h0⟩, h5⟩, h6⟩, h7⟩ := h
            obtain ⟨h1, h2, h3, h4⟩ := var_ok c.c h5
            exact ps_appD h1 h2 h3 h4 h6 (soundE e c.c h7) h0
          | _ => cases h
        | _ => cases h
      | _ => cases h
    | _ => cases h
  | .alloc i es, X, sc, W, st, c, h => by
    cases st with
    | Assign ts v pos =>
      rcases ts with _ | ⟨t, _ | ⟨t2, ts⟩⟩ <;> try (cases h; done)
      · cases t with
        | Name x px =>
          cases v with
          | List xs p =>
            have h : (decide (N[i]? = some x) && locB sc x && decide (es.len ≤ 1000000) && ckEs nm N sc es xs) = true := h
            simp only [Bool.and_eq_true, decide_eq_true_eq] at h
            exact ps_allocD c.c.nd (by rw [c.c.n]; exact h.1.1.1) (loc_ok c.c h.1.1.2) (.inl (c.fn x)) h.1.2 (soundEs es c.c h.2)
          | _ => cases h
        | _ => cases h
      · cases t <;> cases h
    | _ => cases h
  | .expr e, X, sc, W, st, c, h => by
    cases st with
    | Expr x pos =>
      have h : (notComp x && ckE nm N sc e x) = true := h
      rw [Bool.and_eq_true] at h
      exact ps_exprD (soundE e c.c h.2) (sw_not h.1 _ _ _)
    | _ => cases h
  | .ret e, X, sc, W, st, c, h => by
    cases st with
    | Return v pos =>
      cases v with
      | some x => exact ps_retD (soundE e c.c h)
      | none => cases h
    | _ => cases h
  | .retN, X, sc, W, st, c, h => by
    cases st with
    | Return v pos =>
      cases v with
      | none => exact ps_retND
      | some x => cases h
    | _ => cases h
  | .retC i, X, sc, W, st, c, h => by
    cases st with
    | Return v pos =>
      cases v with
      | none => cases h
      | some x =>
        cases x with
        | Name x p =>
          obtain ⟨h1, h2, h3, h4⟩ := var_ok c.c (show isVar N sc i x = true from h)
          exact ps_retCD h1 h2 h3 h4
        | _ => cases h
    | _ => cases h
  | .iff d a b, X, sc, W, st, c, h => by
    cases st with
    | If t x y pos =>
      have h : (notIte d && ckE nm N sc d t && ckSs nm N sc a x && ckSs nm N sc b y) = true := h
      simp only [Bool.and_eq_true] at h
      exact ps_ifD (soundT d h.1.1.1 c.c h.1.1.2) (soundSs a c h.1.2) (soundSs b c h.2)
    | _ => cases h
  | .whl d b f, X, sc, W, st, c, h => by
    cases st with
    | While t x el pos =>
      cases el with
      | nil =>
        have h : (notIte d && ckE nm N sc d t && ckSs nm N sc b x) = true := h
        simp only [Bool.and_eq_true] at h
        exact ps_whileD c.po (soundT d h.1.1 c.c h.1.2) (soundSs b c h.2)
      | cons _ _ => cases h
    | _ => cases h
  | .fr t it b, X, sc, W, st, c, h => by
    cases st with
    | For tg iter x el pos =>
      cases el with
      | nil =>
        have h : (ckT N (locB sc) t tg && notSet iter && ckI nm N sc (isTupE tg) it iter && ckSs nm N sc b x) = true := h
        simp only [Bool.and_eq_true] at h
        exact ps_forD c.po c.c.calm (soundI it c.c h.1.2 isTup_of) (tgt_ok (N := N) c.c.n c.c.nd c.c.calm (loc_at c) h.1.1.1) (soundSs b c h.2) (fun x => fold_ok h.1.1.2 _ _)
      | cons _ _ => cases h
    | _ => cases h
  | .raise cc, X, sc, W, st, c, h => by
    cases st with
    | Raise e cause pos2 =>
      rcases e with _ | e
      · cases h
      · cases e with
        | Call fn args kws pos =>
          cases fn with
          | Name x p =>
            rcases args with _ | ⟨y, _ | ⟨z, zs⟩⟩ <;> rcases kws with _ | ⟨kw, kws⟩ <;> rcases cause with _ | cause <;> try (cases h; done)
            all_goals try (cases y with
              | Constant cst j p2 => cases cst <;> cases h
              | _ => cases h)
            cases y with
            | Constant cst j p2 =>
              cases cst with
              | str m =>
                have h : (decide (nm.x cc = some x) && isGl sc x) = true := h
                rw [Bool.and_eq_true, decide_eq_true_eq] at h
                obtain ⟨e1, e2, e3, e4, e5⟩ := c.ex cc x h.1
                exact ps_raiseD c.c.calm c.c.tk e2 e1 e3 e4 e5 (gl_ok c.c h.2).1 (gl_ok c.c h.2).2
              | _ => cases h
            | _ => cases h
          | _ => cases h
        | _ => cases h
    | _ => cases h
  | .pass, X, sc, W, st, c, h => by
    cases st with
    | Pass pos => exact ps_passD
    | _ => cases h
  | .stk, X, sc, W, st, c, h => ps_stkD
  | .frz i, X, sc, W, st, c, h => by cases st <;> cases h
  | .parV is es, X, sc, W, st, c, h => by
    cases st with
    | Assign ts v pos =>
      rcases ts with _ | ⟨t, _ | ⟨t2, ts⟩⟩ <;> try (cases h; done)
      · cases t with
        | Tuple xs kt pt =>
          cases v with
          | Tuple vs k2 pt2 =>
            have h : (ckPar N sc is xs vs && ckEv nm N sc es vs) = true := h
            rw [Bool.and_eq_true] at h
            exact par_ok c h.1 (soundV es c.c h.2).2
          | _ => cases h
        | _ => cases h
      · cases t with
        | Tuple xs kt pt => cases v <;> cases h
        | _ => cases h
    | _ => cases h
termination_by s => (sizeOf s)
theorem soundSs : ∀ (s : List MS) {X : Cx} {sc : Sx} {W : WX} {st : List Stmt}, SCok T Ce G call nm N k X sc W → ckSs nm N sc s st = true → PSs X st (RSs X.K T Ce G call W s)
  | [], X, sc, W, st, c, h => by
    cases st with
    | nil => exact pss_nilD
    | cons _ _ => cases h
  | s :: ss, X, sc, W, st, c, h => by
    cases st with
    | nil =>
      by_cases hf : isFrz s = true
      · cases s with
        | frz i => exact pss_frzD (soundSs ss c h)
        | _ => cases hf
      · rw [ckSs_nil (by simpa using hf)] at h
        cases h
    | cons x xs =>
      by_cases hf : isFrz s = true
      · cases s with
        | frz i => exact pss_frzD (soundSs ss c h)
        | _ => cases hf
      · rw [ckSs_cons (by simpa using hf), Bool.and_eq_true] at h
        exact pss_consD (soundS s c h.1) (soundSs ss c h.2)
termination_by s => (sizeOf s)
end
end
end Mp

set_option maxRecDepth 100000
set_option maxHeartbeats 4000000
/-! Mp9: every def keeps its run's promise. -/
namespace Mp
open PySem PySem.Spec PyProof.Rows L2
/-- what is known of a def -/
inductive DefOk (P : Program) (w : World) (K : PySem.W.Frag) (mg : Str → Option Value) (base : Heap) (T : List (Addr × Str)) (Ce : Nat → Addr) (nm : Nm) (tb : Tb) (f : Nat) (x : Str) (ar : Nat) : Prop
  | df {a : Addr} {fd : FuncData} {qual : Str} {params : Arguments} {body : List Stmt} {scope : Scope} {N ps : List Str} {g : Fn} (hm : mg x = some (.ref a)) (F : FunD K x qual params body scope [] [] a fd) (S : FnScope N ps scope) (hb : Binds K fd ps []) (hl : ps.length = ar)
      (ht : tb f = some (.df g)) (h1 : g.ar = ar) (h2 : g.sl = N.length) (hc : ckSs nm N (scope, false) g.body body = true) : DefOk P w K mg base T Ce nm tb f x ar
  | pr {a : Addr} {fd : FuncData} {ps : List Str} {k : Nat} {sem : List Val → M D} (hm : mg x = some (.ref a)) (hk : PySem.W.keepIn K (.ref a) = true) (hb : Binds K fd ps []) (hl : ps.length = ar) (ht : tb f = some (.pr k sem))
      (F : FnOk P w K mg base (L2N.CX P w) (k + 1) a fd ps (spC K T Ce (fun _ => sem) f ps.length)) : DefOk P w K mg base T Ce nm tb f x ar
structure PrOk (P : Program) (w : World) (K : PySem.W.Frag) (mg : Str → Option Value) (base : Heap) (T : List (Addr × Str)) (Ce : Nat → Addr) (G : Nat → Option D) (nm : Nm) (tb : Tb) : Prop where
  fn : ∀ (f : Nat) (x : Str) (n : Nat), nm.f f = some (x, n) → DefOk P w K mg base T Ce nm tb f x n
  gl : ∀ (g : Nat) (x : Str), nm.g g = some x → ∃ u v, mg x = some u ∧ RelV v u ∧ ∀ d, G g = some d → ∀ H θ, VR K H θ d v
  bl : ∀ x ∈ nm.b, mg x = none
  ex : ∀ (c : Nat) (x : Str), nm.x c = some x → mg x = some (.ref (Ce c)) ∧ PySem.W.excIn K (Ce c) He.veBase "ValueError.__new__" = true ∧ PySem.W.keepIn K (.ref (Ce c)) = true ∧ PySem.W.subIn K (.ref (Ce c)) (.type "BaseException") = some true ∧ PySem.W.typeIn K (.ref (Ce c)) = some (.type "type")
section
variable {P : Program} {w : World} {K : PySem.W.Frag} {mg : Str → Option Value} {base : Heap} {T : List (Addr × Str)} {Ce : Nat → Addr} {G : Nat → Option D} {nm : Nm} {tb : Tb}
theorem spC_len {call : Nat → List Val → M D} {f n : Nat} {vs : List V} {H : Hp} {Q : VK} {E : XK} (h : spC K T Ce call f n vs H Q E) : vs.length = n := by
  obtain ⟨args, μ, θ, hl, rv, _⟩ := h
  rw [← rv.length, hl]
theorem start_rel {H : Hp} {θ : Th} {N : List Str} {args : List Val} {vs : List V} (r : VRvs K H θ args vs) : ERel K H θ (startE N.length args) (L2.start N vs) := by
  unfold startE L2.start
  refine ⟨by simp [r.length], fun i x e => ?_⟩
  by_cases hi : i < args.length
  · rw [List.getElem?_append_left (by simpa using hi), List.getElem?_map] at e
    cases q : args[i]? with
    | none => rw [q] at e; cases e
    | some y =>
      rw [q] at e
      cases e
      obtain ⟨v, ev, rv⟩ := r.get q
      refine ⟨v, ?_, rv⟩
      rw [List.getElem?_append_left (by rw [List.length_map, ← r.length]; exact hi), List.getElem?_map, ev]
      rfl
  · rw [List.getElem?_append_right (by simpa using hi), List.getElem?_replicate] at e
    split at e <;> cases e
/-- the body's run is the call's -/
theorem body_end {n f : Nat} {g : Fn} {args : List Val} {μ : Store} {θ : Th} {H : Hp} {Q : VK} {E : XK} (ht : tb f = some (.df g)) (ha : args.length = g.ar) (sr : SRel K T H θ μ) (h : Wp K T Ce (VR K) (fun c d _ H => E c d H) [] θ H (callN G tb (n + 1) f args μ) Q) :
    Sw K T Ce (fun c d _ H => E c d H) θ H (exs G (callN G tb n) g.body (startE g.sl args) μ) { nx := fun _ H' => Q .non H', rt := Q } := by
  have e : callN G tb (n + 1) f args μ = (match exs G (callN G tb n) g.body (startE g.sl args) μ with
        | some (.ret d μ') => some (Res.ok d (μ'.take μ.length))
        | some (.retC c μ') => if μ.length ≤ c then (cellL μ' c).map fun xs => Res.ok (.list xs) (μ'.take μ.length) else none
        | some (.next _ μ') => some (Res.ok .none (μ'.take μ.length))
        | some (.exc c μ') => some (Res.exc c (μ'.take μ.length))
        | none => none) := by
    show (match tb f with
      | some (.df g) => if args.length = g.ar then (match exs G (callN G tb n) g.body (startE g.sl args) μ with
          | some (.ret d μ') => some (Res.ok d (μ'.take μ.length))
          | some (.retC c μ') => if μ.length ≤ c then (cellL μ' c).map fun xs => Res.ok (.list xs) (μ'.take μ.length) else none
          | some (.next _ μ') => some (Res.ok .none (μ'.take μ.length))
          | some (.exc c μ') => some (Res.exc c (μ'.take μ.length))
          | none => none) else none
      | some (.pr k sem) => if k ≤ n then sem args μ else none
      | none => none) = _
    rw [ht]
    exact if_pos ha
  rw [e] at h
  have len := sr.len
  cases q : exs G (callN G tb n) g.body (startE g.sl args) μ with
  | none => rw [q] at h; exact h
  | some r =>
    rw [q] at h
    cases r with
    | ret d μ' =>
      intro θ' H' v st sr' rv
      refine h _ H' v st.drop ?_ rv.drop
      rw [len]
      exact sr'.drop
    | next en' μ' =>
      intro θ' H' σ' st sr' er'
      refine h _ H' .non st.drop ?_ .non
      rw [len]
      exact sr'.drop
    | exc c μ' =>
      intro θ' H' σ' st sr'
      refine h _ H' st.drop ?_
      rw [len]
      exact sr'.drop
    | retC c μ' =>
      intro θ' H' a st sr' ea
      have h : Wp K T Ce (VR K) (fun c d _ H => E c d H) [] θ H (if μ.length ≤ c then (cellL μ' c).map fun xs => Res.ok (.list xs) (μ'.take μ.length) else none) Q := h
      split at h
      · rename_i hc
        cases q2 : cellL μ' c with
        | none => rw [q2] at h; exact h.elim
        | some ds =>
          rw [q2] at h
          obtain ⟨a', vs, ea', ha', rs⟩ := sr'.cellAt q2
          have e2 : a = a' := ea.inj ⟨[], ea'⟩
          subst e2
          refine h _ H' _ st.drop (by rw [len]; exact sr'.drop) (.lst ha' ⟨fun z => (sr'.hz a z).2 c ea.inn, fun j z => ?_⟩ (VRs.less (θ := θ') (θ' := (θ'.1, θ'.2.take θ.2.length)) (fun b hb => hb.take) rs))
          obtain ⟨hj, z⟩ := In.take.mp z
          have := sr'.nd j c a z ea.inn
          omega
      · exact h.elim
/-- the context of a def's body -/
theorem scok_of {n : Nat} {N ps : List Str} {qual : Str} {scope : Scope} {f : Addr} {cdv : Value} {A : Around} {outer : List Env} {s : Shared} {H : Hp} {E : XK} {call : Nat → List Val → M D} (pk : PrOk P w K mg base T Ce G nm tb) (md : Md P w K mg base T Ce G call nm n) (S : FnScope N ps scope) (hr : Room n (A.deeper (envOfC qual scope s.heap.objs.size f cdv))) :
    SCok T Ce G call nm N n (cxOf (L2N.CX P w) P w K mg base N qual scope f cdv A outer s H E) (scope, false) (fun c d _ H => E c d H) :=
  ⟨⟨rfl, rfl, S.nd, rfl, L2N.takes_of rfl rfl rfl rfl, hr, md, fun z => Bool.noConfusion z⟩, fun _ => rfl, passes_of rfl, S.kind, pk.ex⟩
theorem all_ok (pk : PrOk P w K mg base T Ce G nm tb) : ∀ n, Md P w K mg base T Ce G (callN G tb n) nm n
  | 0 => ⟨fun f x n h => by
      cases pk.fn f x n h with
      | df hm F S hb hl ht h1 h2 hc => exact ⟨_, _, _, hl, hm, F.kp, hb, ⟨fun vs H Q E h => spC_len h, fun A outer s H args us vs Q E _ _ _ _ h => by
          obtain ⟨_, _, _, _, _, _, z⟩ := h
          exact z.elim⟩⟩
      | pr hm hk hb hl ht F => exact ⟨_, _, _, hl, hm, hk, hb, ⟨fun vs H Q E h => spC_len h, fun A outer s H args us vs Q E _ _ _ _ h => by
          obtain ⟨_, _, _, _, _, _, z⟩ := h
          exact z.elim⟩⟩, pk.gl, pk.bl⟩
  | n + 1 => ⟨fun f x m h => by
      have ih := all_ok pk n
      cases pk.fn f x m h with
      | @df a fd qual params body scope N ps g hm F S hb hl ht h1 h2 hc =>
        refine ⟨a, fd, ps, hl, hm, F.kp, hb, FunD.ok F S (fun vs H Q E h => spC_len h) fun cdv A outer s H vs Q E hr hsp => ?_⟩
        obtain ⟨args, μ, θ, hal, rv, sr, hw⟩ := hsp
        refine ⟨RSs K T Ce G (callN G tb n) (fun c d _ H => E c d H) g.body, soundSs g.body (scok_of pk ih S hr) hc, startE g.sl args, μ, θ, ?_, sr, body_end ht (by rw [hal, hl, h1]) sr hw⟩
        rw [h2]
        exact start_rel rv
      | @pr a fd ps k sem hm hk hb hl ht F =>
        refine ⟨a, fd, ps, hl, hm, hk, hb, ?_⟩
        by_cases hkn : k ≤ n
        · refine (F.mono (Nat.succ_le_succ hkn)).imp fun vs H Q E ⟨args, μ, θ, hal, rv, sr, hw⟩ => ⟨args, μ, θ, hal, rv, sr, ?_⟩
          have e : callN G tb (n + 1) f args μ = sem args μ := by
            show (match tb f with
              | some (.df g) => _
              | some (.pr k sem) => if k ≤ n then sem args μ else none
              | none => none) = _
            rw [ht]
            exact if_pos hkn
          rw [e] at hw
          exact hw
        · refine ⟨fun vs H Q E h => spC_len h, fun A outer s H args us vs Q E _ _ _ _ h => ?_⟩
          obtain ⟨args, μ, θ, hal, rv, sr, hw⟩ := h
          have e : callN G tb (n + 1) f args μ = none := by
            show (match tb f with
              | some (.df g) => _
              | some (.pr k sem) => if k ≤ n then sem args μ else none
              | none => none) = _
            rw [ht]
            exact if_neg hkn
          rw [e] at hw
          exact hw.elim, pk.gl, pk.bl⟩
end
end Mp

set_option maxRecDepth 100000
set_option maxHeartbeats 4000000
/-! Mp10: what `_law_term` needs while the exception is handled. -/
namespace Mp
open PySem PySem.Spec PyProof.Rows L2 HotX
section
variable {prog : Program} {w : World} {A : Around} {E : Value → Shared → Prop} {s : Shared}
theorem nextEndHot {it l x1 : Addr} {i : Nat} {items : Array Value} {Q : Option Value → Shared → Prop} (hot : HotAt A x1 s.heap) (nx : x1 ≠ it)
    (hit : s.heap.IsListIter it l i) (hl : s.heap.IsList l items) (hx : items[i]? = none)
    (hQ : ∀ h', Heap.ExtBut it s.heap h' → Q none { s with heap := h' }) : wpAny (model prog w) A (pyNext (.ref it)) Q E s := by
  obtain ⟨hh, o1, vs1, h1, d1, c1⟩ := hot
  obtain ⟨o, ho, hc, hd⟩ := id hit
  obtain ⟨ol, hol, _, nl, hdl⟩ := hl
  unfold pyNext
  refine wpAny_bind (wpAny_attempt (wpAny_callSpecial?_slot (name := Str.ofString "__next__") hit.typeIs slot_listiter_next (wpAny_call_entry slot_listiter_next hit.typeIs entry_listiter_next ?_ (args_listiter_next _))))
  show wpAny _ _ (field (.ref it) 0 >>= _) _ _ s
  refine wpAny_bind (wpAny_field ho hd (x := .ref l) rfl ?_)
  show wpAny _ _ (if (Value.ref l == Value.none) = true then _ else _) _ _ s
  rw [if_neg (show ¬ ((Value.ref l == Value.none) = true) from (fun z => Bool.noConfusion z))]
  show wpAny _ _ (field (.ref it) 1 >>= _) _ _ s
  refine wpAny_bind (wpAny_field ho hd (x := .int i 0) rfl ?_)
  show wpAny _ _ (seqItems? (.ref l) >>= _) _ _ s
  refine wpAny_bind (wpAny_seqItems hol hdl ?_)
  simp only [hx, Int.toNat_natCast]
  refine wpAny_bind (wpAny_rule (wpAny_bind (wpAny_setField ho hd (by simp) ?_)))
  show wpAny _ _ (newExc (.type "StopIteration") [] >>= _) _ _ _
  refine wpAny_bind ?_
  simp only [newTuple, newExc]
  refine wpAny_bind (wpAny_newObj_type ?_ (by size_fits))
  refine wpAny_bind (m := firstArgMember _ _) (wpAny_of_eq (a := Value.none) (by first | rfl | (unfold firstArgMember; rfl)) ?_)
  refine wpAny_newObj_type ?_ (by size_fits)
  have h1' := (Heap.get?_update_other s.heap (Obj.mapFields (·.setIfInBounds 0 Value.none)) (Ne.symm nx)).trans h1
  refine raiseNew_hot (x1 := x1) ⟨hh, o1, vs1, Heap.get?_push_of_some _ (Heap.get?_push_of_some _ h1'), d1, c1⟩ (Nat.ne_of_lt (Heap.lt_size (Heap.get?_push_of_some _ h1'))) (Heap.get?_push_size _ rfl) rfl (by first | (simp; done) | (simp; omega)) ?_
  refine wpAny_bind (wpAny_isInstance (T := "StopIteration") (b := true) ⟨_, Heap.get?_update_self _ (Heap.get?_push_size _ rfl) rfl, rfl⟩ isSubtype_stop ?_)
  refine wpAny_pure (hQ _ fun b u hb e => ?_)
  have e1 := (Heap.get?_update_other s.heap (Obj.mapFields (·.setIfInBounds 0 Value.none)) (Ne.symm hb)).trans e
  rw [Heap.get?_update_other _ _ (Nat.ne_of_gt (Heap.lt_size (Heap.get?_push_of_some _ e1)))]
  exact Heap.get?_push_of_some _ (Heap.get?_push_of_some _ e1)
/-- a list walked while an exception is handled -/
theorem walksHot {x1 : Addr} {o1 : Obj} {vs1 : Array Value} (hh : A.handled = some (.ref x1)) (d1 : o1.data = .fields vs1) (c1 : vs1[2]? = some .none) (I ax : Addr) (hne : ax ≠ I) (hnx : x1 ≠ I) (items : Array Value) :
    Walks prog w A I [I, ax, x1] [I] items.size (fun i v => items[i]? = some v) (fun i h => h.IsListIter I ax i ∧ h.IsList ax items ∧ h.get? x1 = some o1) where
  sub := fun b hb => by simp at hb; simp [hb]
  frame := fun _ _ _ st hk => ⟨st.1.at fun o e => hk I (by simp) o e, st.2.1.at fun o e => hk ax (by simp) o e, hk x1 (by simp) o1 st.2.2⟩
  item := fun i s Q E hi st hQ => by
    refine wpAny_pyNext_list_item st.1 st.2.1 (x := items[i]) (by simp [hi]) fun h' hit' hs' => ?_
    refine hQ _ h' s.toks (by simp [hi]) ⟨hit', st.2.1.extBut hs'.extBut hne, hs'.extBut _ _ hnx st.2.2⟩ fun b o hb e => ?_
    exact hs'.extBut b o (fun h => hb (by simp [h])) e
  done := fun s Q E st hQ => nextEndHot ⟨hh, o1, vs1, st.2.2, d1, c1⟩ hnx st.1 st.2.1 (by simp) fun h' he' => hQ h' s.toks fun b o hb e => he' b o (fun h => hb (by simp [h])) e
  self := fun _ _ _ _ st hQ => wpAny_pyIter_listiter st.1 hQ
end
def b01 (b : Bool) : Int := if b then 1 else 0
theorem vals_bl : ∀ {bs : List Bool} {us : List Value}, Vals (bs.map V.bl) us → us = bs.map Value.bool
  | [], _, .nil => rfl
  | b :: bs, _, .cons r t => by
    rw [vals_bl t]
    rw [show _ = Value.bool b from r]
    rfl
theorem vals_int : ∀ {ns : List Int} {us : List Value}, Vals (ns.map V.int) us → ∀ (i : Nat) (v : Value), us[i]? = some v → ∃ (n : Int) (t : Tok), ns[i]? = some n ∧ v = Value.int n t
  | [], _, .nil, i, v, h => by simp at h
  | n :: ns, _, .cons r t, 0, v, h => by
    obtain ⟨t0, e⟩ := r
    simp at h
    exact ⟨n, t0, by simp, by rw [← h, e]⟩
  | n :: ns, _, .cons r t, i + 1, v, h => by
    obtain ⟨m, t1, e1, e2⟩ := vals_int t i v (by simpa using h)
    exact ⟨m, t1, by simpa using e1, e2⟩
theorem paired_ints : ∀ {bs : List Bool} {ys : List Value}, Paired (fun v y => ∃ b t, v = Value.bool b ∧ y = Value.int (b01 b) t) (bs.map Value.bool) ys → Vals (bs.map fun b => V.int (b01 b)) ys
  | [], _, .nil => .nil
  | b :: bs, _, .cons r t => by
    obtain ⟨b', t0, e1, e2⟩ := r
    cases e1
    exact .cons ⟨t0, e2⟩ (paired_ints t)
section
variable {X : Cx}
theorem laidN {pins : List (Addr × Obj)} {σ : L2.St} {H : Hp} {s : Shared} {h' : Heap} {a : Addr} {o : HO} {t' : Nat} (I : Inv X pins σ H s) (k : ∀ b u, s.heap.get? b = some u → h'.get? b = some u) (hp : s.heap.get? a = none) (new : ObjOk X.prog X.w (upd H a o) h' a o) :
    Inv X pins σ (upd H a o) { s with heap := h', toks := t' } := by
  have hn : H a = none := I.hok.gone hp
  have ne : ∀ b u, s.heap.get? b = some u → b ≠ a := fun b u e z => by rw [z, hp] at e; cases e
  refine I.un ⟨fun b u q _ _ _ => k b u q, fun b u q _ _ _ => ⟨u.slots, k b u q⟩, fun b u q n _ => by rw [upd_ne (ne b u q)]; exact n, fun b u q _ => ⟨u, k b u q⟩, fun b xs q => by rw [upd_ne (ne_of_none q hn)]; exact q, fun b u xs q => by rw [upd_ne (ne_of_none q hn)]; exact q, fun b ps q => ⟨#[], by rw [upd_ne (ne_of_none q hn), q]; simp⟩⟩ fun b u e => ?_
  by_cases hb : b = a
  · rw [hb, upd_same] at e
    cases e
    rw [hb]
    exact new
  · rw [upd_ne hb] at e
    refine (I.hok b u e).stay (fun c v _ q => k c v q) (fun c q => ?_) fun c xs q => ?_
    · rw [upd_ne (ne_of_none q hn)]
      exact q
    · rw [upd_ne (ne_of_none q hn)]
      exact q
theorem pe_intsHot {i : Nat} {fl y : Str} {scope : Scope} {p1 p2 p3 p4 p5 pos : Pos} (hc : L2H.HotC X) (hN : X.N[i]? = some fl) (hv : Vis X.env.scope fl) (hd : (fl == ("__debug__" : Str)) = false) (hcd : (fl == ("__classdict__" : Str)) = false)
    (hk : scope.kind = .function) (hy : scope.names.lookup y = some .local) (hyd : (y == ("__debug__" : Str)) = false) (hi : scope.names.lookup ("int" : Str) = some .globalImplicit) (hnm : ∀ z ∈ scope.names, z.2 ≠ .cell ∧ z.2 ≠ .free ∧ (z.2 = .local → scope.names.lookup z.1 = some .local)) (hm : X.mg "int" = none) :
    PE X (.ListComp (.Call (.Name "int" p1) [.Name y p2] [] p3) [⟨.Name y p4, .Name fl p5, [], 0⟩] scope pos)
      (fun σ H Q => ∃ (a : Addr) (bs : List Bool), σ[i]? = some (some (.ref a)) ∧ H a = some (.lst (bs.map V.bl)) ∧ ∀ p, H p = none → Q (.ref p) (upd H p (.lst (bs.map fun b => .int (b01 b))))) := by
  refine ⟨fun pins s σ H Q I h => ?_⟩
  obtain ⟨a, bs, hs, ha, hq⟩ := h
  have hcl : closureFor scope X.env = pure (cloFrom X.env.cells scope.names []) := closure_ok fun z hz e => absurd e (hnm z hz).2.1
  refine wpAny_ListComp_free (fun _ => true) (fun v z => ∃ b t, v = Value.bool b ∧ z = Value.int (b01 b) t) hcl (fun z hz => (hnm z hz).1) hk (fun z hz => (hnm z hz).2.2) hy ?_
  refine thn ((pe_var (pos := p5) hN hv hd hcd).run pins s σ H (fun v H1 => v = .ref a ∧ H1 = H) I ⟨.ref a, hs, rfl, rfl⟩) fun u s1 ⟨v, H1, I1, r1, ev, eH⟩ => ?_
  subst ev
  subst eH
  obtain rfl : u = Value.ref a := r1
  obtain ⟨hl, its, n, rv, ho⟩ := (show ObjOk X.prog X.w H1 s1.heap a (.lst (bs.map V.bl)) from I1.hok a _ ha)
  have ei := vals_bl rv
  subst ei
  obtain ⟨⟨x1, o1⟩, ⟨hh, vs1, d1, c1⟩, hp⟩ := hc
  have P1 := I1.pin (x1, o1) (List.mem_append_left _ hp)
  have gx : s1.heap.get? x1 = some o1 := P1.1
  refine wpAny_pyIter_list ⟨_, ho, rfl, n, rfl⟩ ?_
  have hax : a < s1.heap.objs.size := Heap.lt_size ho
  have hx1 : x1 < s1.heap.objs.size := Heap.lt_size gx
  refine ⟨s1.heap.objs.size, _, _, _, _, _, rfl, walksHot (x1 := x1) (o1 := o1) hh d1 c1 s1.heap.objs.size a (Nat.ne_of_lt hax) (Nat.ne_of_lt hx1) (bs.map Value.bool).toArray, ?_, ⟨⟨_, Heap.get?_push_size _ rfl, rfl, rfl⟩, ⟨_, Heap.get?_push_of_some _ ho, rfl, n, rfl⟩, Heap.get?_push_of_some _ gx⟩, fun b hb => ?_, ⟨fun C i v s3 m3 E' hC hP hns hmv hkp htk => ?_, fun C i v s3 m3 E' hC hP _ hns hmv hkp htk => ?_⟩, fun D h' tk ys vs hD hil hpl hlen hP hF hkp => ?_⟩
  · simpa using hl
  · rw [Heap.size_push]
    simp only [List.mem_cons, List.not_mem_nil, or_false] at hb
    rcases hb with e | e | e <;> rw [e]
    · exact Nat.lt_succ_self _
    · exact Nat.lt_succ_of_lt hax
    · exact Nat.lt_succ_of_lt hx1
  · exact wpAny_pure ⟨rfl, s3.heap, s3.toks, rfl, fun _ _ e => e⟩
  · obtain ⟨mb, q1, q2⟩ := I1.mod.blt
    have bk : ∀ b o, X.base.get? b = some o → s3.heap.get? b = some o := fun b o e => by
      have e1 := I1.bk b o e
      exact hkp b o (fun z => by
        have z : b = s1.heap.objs.size := by simpa using z
        exact Nat.lt_irrefl _ (z ▸ Heap.lt_size e1)) (Heap.get?_push_of_some _ e1)
    obtain ⟨b, eb⟩ : ∃ b, v = Value.bool b := by
      have hP : (bs.map Value.bool).toArray[i]? = some v := hP
      rw [List.getElem?_toArray, List.getElem?_map] at hP
      cases q : bs[i]? with
      | none => rw [q] at hP; cases hP
      | some b => rw [q] at hP; cases hP; exact ⟨b, rfl⟩
    subst eb
    have rl : ∀ {z : Str}, scope.names.lookup z = some .globalImplicit → (relabel scope X.env).names.lookup z = some .globalImplicit := fun {z} hz => by
      have e : (relabel scope X.env).names = scope.names := by
        show scope.names.map _ = _
        refine (List.map_congr_left (g := id) fun q hq => ?_).trans (List.map_id _)
        have := (hnm q hq).2.1
        obtain ⟨n, k⟩ := q
        cases k <;> first | rfl | exact absurd rfl this
      rw [e]; exact hz
    refine wpAny_Call_Name_kw (Calls.Name_function_global hk (rl hi) (Calls.loadGlobal_builtin (by show s3.heap.Ns X.env.globals _; rw [I1.ok.glob]; exact I1.mod.glob.keeps bk) hm (by show s3.heap.Ns X.env.builtins _; rw [I1.ok.blt]; exact q1.keeps bk) ((q2 "int" (by decide)).trans (by decide +kernel : bootBuiltins "int" = some (.type "int"))) ?_))
    refine PyProof.Rows.callWith_type1 (Calls.spliced_cons (wpAny_Name (wpAny_loadName_local hk (lookup_relabel_local hy) hns hmv (Calls.spliced_nil ?_)) hyd)) rfl rfl
    exact call_int_bool ⟨⟨b, _, rfl, rfl⟩, s3.heap, s3.toks + 1, rfl, fun _ _ e => e⟩
  · have ev : vs = bs.map Value.bool := by
      refine List.ext_getElem? fun j => ?_
      by_cases hj : j < vs.length
      · have e := hP j _ (List.getElem?_eq_getElem hj)
        rw [List.getElem?_toArray] at e
        rw [e, List.getElem?_eq_getElem hj]
      · rw [List.getElem?_eq_none (by omega), List.getElem?_eq_none]
        have : vs.length = (bs.map Value.bool).toArray.size := hlen
        simp at this
        simp
        omega
    subst ev
    rw [List.filter_eq_self.mpr (fun _ _ => rfl)] at hF
    obtain ⟨n', hn'⟩ := hpl
    have kp : ∀ b u, s1.heap.get? b = some u → h'.get? b = some u := fun b u e => hkp b u (fun z => by
      have z : b = s1.heap.objs.size := by simpa using z
      exact Nat.lt_irrefl _ (z ▸ Heap.lt_size e)) (Heap.get?_push_of_some _ e)
    have hD1 : s1.heap.get? D = none := by
      cases q : s1.heap.get? D with
      | none => rfl
      | some o => rw [Heap.get?_push_of_some _ q] at hD; cases hD
    have R := paired_ints hF
    have ob : ObjOk X.prog X.w (upd H1 D (.lst (bs.map fun b => .int (b01 b)))) h' D (.lst (bs.map fun b => .int (b01 b))) := ⟨by simpa using hl, ys.toList, n', R, by simpa using hn'⟩
    have I2 : Inv X pins σ (upd H1 D (.lst (bs.map fun b => .int (b01 b)))) { s1 with heap := h', toks := tk } := laidN I1 kp hD1 ob
    exact ⟨.ref D, _, I2, rfl, hq D (I1.hok.gone hD1)⟩
theorem preSum_le (val : Nat → Int) (h : ∀ j, 0 ≤ val j ∧ val j ≤ 1) : ∀ n, 0 ≤ preSum val n ∧ preSum val n ≤ n
  | 0 => ⟨Int.le_refl _, Int.le_refl _⟩
  | n + 1 => by
    have := preSum_le val h n
    have := h n
    have e : preSum val (n + 1) = preSum val n + val n := rfl
    rw [e]
    omega
theorem callSumHot (hc : L2H.HotC X) : CallR X (.builtin "sum") (fun xs H Q => ∃ (a : Addr) (bs : List Bool), xs = [.ref a] ∧ bs.length ≤ 1000 ∧ H a = some (.lst (bs.map fun b => V.int (b01 b))) ∧ Q (.int (preSum (fun j => b01 (bs[j]?.getD false)) bs.length)) H) := by
  intro pins s σ H xs us Q I r h
  obtain ⟨a, bs, rfl, hb, ha, q⟩ := h
  cases r with
  | cons r0 rr =>
    cases rr
    obtain rfl := (show _ = Value.ref a from r0)
    obtain ⟨hl, its, n, rv, ho⟩ := (show ObjOk X.prog X.w H s.heap a (.lst (bs.map fun b => V.int (b01 b))) from I.hok a _ ha)
    obtain ⟨⟨x1, o1⟩, ⟨hh, vs1, d1, c1⟩, hp⟩ := hc
    have gx : s.heap.get? x1 = some o1 := (I.pin (x1, o1) (List.mem_append_left _ hp)).1
    have hax : a < s.heap.objs.size := Heap.lt_size ho
    have hx1 : x1 < s.heap.objs.size := Heap.lt_size gx
    have hlen : its.length = bs.length := by
      have := rv.length
      simpa using this.symm
    refine call_sum_walk (wpAny_pyIter_list ⟨_, ho, rfl, n, rfl⟩ ?_)
    refine ⟨s.heap.objs.size, _, _, _, _, _, fun j => b01 (bs[j]?.getD false), rfl, walksHot (A := X.A.in1) (x1 := x1) (o1 := o1) hh d1 c1 s.heap.objs.size a (Nat.ne_of_lt hax) (Nat.ne_of_lt hx1) its.toArray, ⟨⟨_, Heap.get?_push_size _ rfl, rfl, rfl⟩, ⟨_, Heap.get?_push_of_some _ ho, rfl, n, rfl⟩, Heap.get?_push_of_some _ gx⟩, fun b hb => ?_, fun i v hv => ?_, fun j hj => ?_, fun h' tk t' kp => ?_⟩
    · rw [Heap.size_push]
      simp only [List.mem_cons, List.not_mem_nil, or_false] at hb
      rcases hb with e | e | e <;> rw [e]
      · exact Nat.lt_succ_self _
      · exact Nat.lt_succ_of_lt hax
      · exact Nat.lt_succ_of_lt hx1
    · have hv : its.toArray[i]? = some v := hv
      rw [List.getElem?_toArray] at hv
      obtain ⟨m, t, e1, e2⟩ := vals_int (ns := bs.map b01) (by rw [List.map_map]; exact rv) i v hv
      refine ⟨t, ?_⟩
      rw [e2]
      rw [List.getElem?_map] at e1
      cases e : bs[i]? with
      | none => rw [e] at e1; cases e1
      | some b => rw [e] at e1; cases e1; show _ = Value.int (b01 (bs[i]?.getD false)) t; rw [e]; rfl
    · have hv : ∀ j : Nat, 0 ≤ b01 (bs[j]?.getD false) ∧ b01 (bs[j]?.getD false) ≤ 1 := fun j => by
        unfold b01
        split <;> omega
      have := preSum_le _ hv (j + 1)
      have := hv j
      have hj : j < its.toArray.size := hj
      have : j < bs.length := by rw [← hlen]; simpa using hj
      refine ⟨(show InLong (b01 (bs[j]?.getD false)) from ?_), ?_⟩ <;> unfold InLong <;> omega
    · have I2 : Inv X pins σ H { s with heap := h', toks := tk } := I.kept fun b o e => kp b o (fun z => by
        have z : b = s.heap.objs.size := by simpa using z
        exact Nat.lt_irrefl _ (z ▸ Heap.lt_size e)) (Heap.get?_push_of_some _ e)
      refine ⟨.int (preSum (fun j => b01 (bs[j]?.getD false)) bs.length), H, I2, ⟨t', ?_⟩, q⟩
      have e : its.toArray.size = bs.length := by simpa using hlen
      rw [e]
end
end Mp

set_option maxRecDepth 100000
set_option maxHeartbeats 4000000
/-! Mp11: `_law_term`, run while its exception is handled. -/
namespace Mp
open PySem PySem.Spec PyProof.Rows L2 HotX
/-! ### the text -/
def isE (C : Str) : Expr → Bool
  | .Call (.Name f _) [.Name e _, .Name c _] [] _ => decide (f = ("isinstance" : Str)) && decide (e = ("e" : Str)) && decide (c = C)
  | _ => false
def isEs : List Str → List Expr → Bool
  | [], [] => true
  | C :: Cs, x :: xs => isE C x && isEs Cs xs
  | _, _ => false
def strE (C : Str) : Expr → Bool
  | .Constant (.str c) _ _ => decide (c = C)
  | _ => false
def strEs : List Str → List Expr → Bool
  | [], [] => true
  | C :: Cs, x :: xs => strE C x && strEs Cs xs
  | _, _ => false
/-- x = [..] -/
def setL (x : Str) (f : List Expr → Bool) : Stmt → Bool
  | .Assign [.Name y _] (.List es _) _ => decide (y = x) && f es
  | _ => false
/-- x = x + [..] -/
def addL (x : Str) (f : List Expr → Bool) : Stmt → Bool
  | .Assign [.Name y _] (.BinOp (.Name z _) .Add (.List es _) _) _ => decide (y = x) && decide (z = x) && f es
  | _ => false
def okInts (s : Scope) (y : Str) : Bool := decide (s.kind = .function) && decide (s.names.lookup y = some .local) && !(y == ("__debug__" : Str)) && decide (s.names.lookup ("int" : Str) = some .globalImplicit) &&
  s.names.all fun z => !decide (z.2 = .cell) && !decide (z.2 = .free) && (!decide (z.2 = .local) || decide (s.names.lookup z.1 = some .local))
/-- sum([int(flag) for flag in flags]) != 1 or not isinstance(e, ValueError) -/
def testE : Expr → Bool
  | .BoolOp .Or [.Compare (.Call (.Name s _) [.ListComp (.Call (.Name i _) [.Name y _] [] _) [⟨.Name y' _, .Name fl _, [], 0⟩] sc _] [] _) [.NotEq] [.Constant (.int 1) _ _] _, .UnaryOp .Not v _] _ =>
    decide (s = ("sum" : Str)) && decide (i = ("int" : Str)) && decide (y' = y) && decide (fl = ("flags" : Str)) && okInts sc y && isE "ValueError" v
  | _ => false
def ifE : Stmt → Bool
  | .If c [.Return (some _) _] [] _ => testE c
  | _ => false
def lastE : Stmt → Bool
  | .Return (some (.Tuple [.Constant (.str er) _ _, .Subscript (.Name k _) (.Call (.Attribute (.Name fl _) ix ap) [.Constant (.bool true) _ _] [] cp) _] _ _)) _ =>
    decide (er = ("error" : Str)) && decide (k = ("kinds" : Str)) && decide (fl = ("flags" : Str)) && decide (ix = ("index" : Str)) && (ap.endLine == cp.line)
  | _ => false
def g1 : List Str := ["InvalidTerm", "InvalidNet", "InvalidPoint"]
def g2 : List Str := ["InvalidNumber", "InvalidPolygon", "InvalidCell"]
def g3 : List Str := ["InvalidLooks", "InvalidText", "OnBorder"]
def g4 : List Str := ["NotOne", "NothingToUndo"]
def gAll : List Str := g1 ++ g2 ++ g3 ++ g4
def k1 : List Str := g1 ++ g2
def k2 : List Str := g3 ++ g4
def ckTerm : List Stmt → Bool
  | [a, b, c, d, e, f, g, h] => setL "flags" (isEs g1) a && addL "flags" (isEs g2) b && addL "flags" (isEs g3) c && addL "flags" (isEs g4) d && setL "kinds" (strEs k1) e && addL "kinds" (strEs k2) f && ifE g && lastE h
  | _ => false
/-- the context -/
structure TermX (X : Cx) (a D : Addr) (oe : Obj) (ans : Str → Bool) : Prop where
  hot : L2H.HotC X
  pin : (a, oe) ∈ X.pn
  ec : ExcC X.K D
  cls : oe.cls = .ref D
  dct : oe.dict = none
  dat : ∃ vs, oe.data = .fields vs
  nm : X.N = ([("e" : Str), ("flags" : Str), ("kinds" : Str)] : List Str)
  loc : ∀ x ∈ ([("e" : Str), ("flags" : Str), ("kinds" : Str)] : List Str), X.env.scope.names.lookup x = some .local
  glo : ∀ x ∈ (("isinstance" : Str) :: ("sum" : Str) :: ("ValueError" : Str) :: gAll), Gl X x
  blt : ∀ x ∈ ([("isinstance" : Str), ("sum" : Str), ("int" : Str), ("ValueError" : Str)] : List Str), X.mg x = none
  own : ∀ C ∈ gAll, ∃ b, X.mg C = some (.ref b) ∧ PySem.W.kitOne X.K (.ref D) (.ref b) = some (ans C)
  ve : PySem.W.kitOne X.K (.ref D) (.type "ValueError") = some true
section
variable {X : Cx} {a D : Addr} {oe : Obj} {ans : Str → Bool}
theorem callIsHot (t : TermX X a D oe ans) : CallR X (.builtin "isinstance") (rIsE X.K D a) := by
  intro pins s σ H xs us Q I r h
  obtain ⟨c, cv, b, rfl, hcv, e, q⟩ := h
  cases r with
  | cons rx rr =>
    cases rr with
    | cons rt rr =>
      cases rr
      cases rx
      have ec := hcv _ rt
      subst ec
      obtain ⟨hget, _⟩ := I.pin (a, oe) (List.mem_append_left _ t.pin)
      have J : PySem.W.InstAt s.heap a oe D none := by
        obtain ⟨vs, hv⟩ := t.dat
        have h1 := t.cls
        have h2 := t.dct
        obtain ⟨oc, od, oda, osl⟩ := oe
        dsimp only at h1 h2 hv
        subst h1 h2 hv
        exact ⟨hget, rfl, rfl, trivial⟩
      exact PySem.W.kia_one (PySem.W.handS_kitx_exc t.ec.hg t.ec.hk t.ec.hs t.ec.hd t.ec.ha t.ec.hn t.ec.ht t.ec.hm) I.kIn J e (fun z => nomatch z) fun tk => ⟨.bl b, H, I.kept (t' := tk) fun _ _ z => z, rfl, q⟩
/-- e is the first slot -/
def tE0 (a : Addr) (b : Bool) : TE := fun σ H Q => σ[0]? = some (some (.ref a)) ∧ Q (.bl b) H
theorem TermX.n0 (t : TermX X a D oe ans) : X.N[0]? = some ("e" : Str) := by rw [t.nm]; rfl
theorem TermX.n1 (t : TermX X a D oe ans) : X.N[1]? = some ("flags" : Str) := by rw [t.nm]; rfl
theorem TermX.n2 (t : TermX X a D oe ans) : X.N[2]? = some ("kinds" : Str) := by rw [t.nm]; rfl
theorem TermX.nd (t : TermX X a D oe ans) : X.N.Nodup := by rw [t.nm]; decide
theorem pe_isE (t : TermX X a D oe ans) {C : Str} {x : Expr} {v : V} {u : Value} {b : Bool} (h : isE C x = true) (hC : ∀ pos, PE X (.Name C pos) (tC v)) (hv : ∀ w, RelV v w → w = u) (hk : PySem.W.kitOne X.K (.ref D) u = some b) : PE X x (tE0 a b) := by
  unfold isE at h
  split at h
  · rename_i f p1 e p2 c p3 p4
    simp only [Bool.and_eq_true, decide_eq_true_eq] at h
    obtain ⟨⟨rfl, rfl⟩, rfl⟩ := h
    refine PE.imp (pe_callB (callIsHot t) (t.glo _ (by simp)) (t.blt _ (by simp)) (by decide +kernel) (pa_cons (pe_var t.n0 (.inl (t.loc _ (by simp)))) (pa_cons (hC p3) pa_nil))) fun σ H Q ⟨h1, h2⟩ => ?_
    exact ⟨_, h1, v, u, b, rfl, hv, hk, h2⟩
  · cases h
theorem pe_isC (t : TermX X a D oe ans) {C : Str} (hC : C ∈ gAll) {x : Expr} (h : isE C x = true) (hd : (C == ("__debug__" : Str)) = false) : PE X x (tE0 a (ans C)) := by
  obtain ⟨b, e1, e2⟩ := t.own C hC
  exact pe_isE t h (fun pos => pe_glob (v := .ref b) (t.glo _ (by simp [hC])) e1 rfl hd) (fun w r => r) e2
theorem notStarE {C : Str} {x : Expr} (h : isE C x = true) : notStar x = true := by
  unfold isE at h
  split at h
  · rfl
  · cases h
theorem notStarS {C : Str} {x : Expr} (h : strE C x = true) : notStar x = true := by
  unfold strE at h
  split at h
  · rfl
  · cases h
def tEs (a : Addr) (vs : List V) : TA := fun σ H Q => σ[0]? = some (some (.ref a)) ∧ Q vs H
theorem pa_isEs (t : TermX X a D oe ans) : ∀ (Cs : List Str) (xs : List Expr), (∀ C ∈ Cs, C ∈ gAll ∧ (C == ("__debug__" : Str)) = false) → isEs Cs xs = true → PA X xs (tEs a (Cs.map fun C => .bl (ans C)))
  | [], [], _, _ => PA.imp pa_nil fun σ H Q h => h.2
  | C :: Cs, x :: xs, hC, h => by
    have h : (isE C x && isEs Cs xs) = true := h
    rw [Bool.and_eq_true] at h
    have hc := hC C List.mem_cons_self
    refine PA.imp (pa_cons (pe_isC t hc.1 h.1 hc.2) (pa_isEs t Cs xs (fun C hm => hC C (List.mem_cons_of_mem _ hm)) h.2) (star_cons (notStarE h.1))) fun σ H Q ⟨h1, h2⟩ => ⟨h1, h1, h2⟩
  | [], _ :: _, _, h => by cases h
  | _ :: _, [], _, h => by cases h
def tV (vs : List V) : TA := fun _ H Q => Q vs H
theorem pa_strs : ∀ (Cs : List Str) (xs : List Expr), strEs Cs xs = true → PA X xs (tV (Cs.map .str))
  | [], [], _ => PA.imp pa_nil fun σ H Q h => h
  | C :: Cs, x :: xs, h => by
    have h : (strE C x && strEs Cs xs) = true := h
    rw [Bool.and_eq_true] at h
    have hs := notStarS h.1
    obtain ⟨h1, h2⟩ := h
    unfold strE at h1
    split at h1
    · rename_i c j p
      have e : c = C := of_decide_eq_true h1
      subst e
      exact PA.imp (pa_cons pe_str (pa_strs Cs xs h2) (star_cons hs)) fun σ H Q q => q
    · cases h1
  | [], _ :: _, h => by cases h
  | _ :: _, [], h => by cases h
/-- only new objects -/
def Ext (H H' : Hp) : Prop := ∀ b o, H b = some o → H' b = some o
theorem Ext.refl (H : Hp) : Ext H H := fun _ _ h => h
theorem Ext.trans {H H1 H2 : Hp} (x : Ext H H1) (y : Ext H1 H2) : Ext H H2 := fun b o h => y b o (x b o h)
theorem Ext.new {H H1 : Hp} {p : Addr} {o : HO} (x : Ext H H1) (h : H1 p = none) : Ext H (upd H1 p o) := fun b u e => by
  have e1 := x b u e
  rw [upd_ne (ne_of_none e1 h)]; exact e1
theorem Ext.non {H H1 : Hp} {p : Addr} (x : Ext H H1) (h : H1 p = none) : H p = none := by
  cases e : H p with
  | none => rfl
  | some o => rw [x p o e] at h; cases h
theorem pe_setL {X : Cx} {x : Str} {i : Nat} {f : List Expr → Bool} {st : Stmt} {ta : TA} (h : setL x f st = true) (hN : X.N.Nodup) (hi : X.N[i]? = some x) (hl : X.env.scope.names.lookup x = some .local) (ha : ∀ es, f es = true → PA X es ta) :
    PS X st (tAsg (tLst ta) (gName i)) := by
  unfold setL at h
  split at h
  · rename_i y p1 es p2 p3
    simp only [Bool.and_eq_true, decide_eq_true_eq] at h
    obtain ⟨rfl, h⟩ := h
    exact ps_set hN hi (.inl hl) (pe_lst (ha es h)) rfl (.inr hl)
  · cases h
theorem pe_addL {X : Cx} {x : Str} {i : Nat} {f : List Expr → Bool} {st : Stmt} {ta : TA} (h : addL x f st = true) (hN : X.N.Nodup) (hi : X.N[i]? = some x) (hl : X.env.scope.names.lookup x = some .local) (ha : ∀ es, f es = true → PA X es ta) (hd : (x == ("__debug__" : Str)) = false) (hcd : (x == ("__classdict__" : Str)) = false) :
    PS X st (tAsg (tOp rCat (tVar i) (tLst ta)) (gName i)) := by
  unfold addL at h
  split at h
  · rename_i y p1 z p2 es p3 p4 p5
    simp only [Bool.and_eq_true, decide_eq_true_eq] at h
    obtain ⟨⟨rfl, rfl⟩, h⟩ := h
    exact ps_set hN hi (.inl hl) (pe_op op_cat (pe_var hi (.inl hl) hd hcd) (pe_lst (ha es h))) rfl (.inr hl)
  · cases h
def rSumH : List V → Hp → VK → Prop := fun xs H Q => ∃ (a : Addr) (bs : List Bool), xs = [.ref a] ∧ bs.length ≤ 1000 ∧ H a = some (.lst (bs.map fun b => V.int (b01 b))) ∧ Q (.int (preSum (fun j => b01 (bs[j]?.getD false)) bs.length)) H
def tIntsH : TE := fun σ H Q => ∃ (a : Addr) (bs : List Bool), σ[1]? = some (some (.ref a)) ∧ H a = some (.lst (bs.map V.bl)) ∧ ∀ p, H p = none → Q (.ref p) (upd H p (.lst (bs.map fun b => .int (b01 b))))
theorem pt_testE {X : Cx} {a D : Addr} {oe : Obj} {ans : Str → Bool} (t : TermX X a D oe ans) {x : Expr} (h : testE x = true) :
    PT X x (tOr (tTest (tOp rNe (tCB rSumH (tCons tIntsH tNil)) (tC (.int 1)))) (tNot (tB (tE0 a true)))) := by
  unfold testE at h
  split at h
  · rename_i s p1 i p2 y p3 p4 y' p5 fl p6 sc p7 p8 k9 p9 p10 v p11 p12
    simp only [Bool.and_eq_true, decide_eq_true_eq] at h
    obtain ⟨⟨⟨⟨⟨rfl, rfl⟩, rfl⟩, rfl⟩, h1⟩, h2⟩ := h
    unfold okInts at h1
    simp only [Bool.and_eq_true, Bool.or_eq_true, decide_eq_true_eq, Bool.not_eq_true', decide_eq_false_iff_not, List.all_eq_true] at h1
    obtain ⟨⟨⟨⟨c1, c2⟩, c3⟩, c4⟩, c5⟩ := h1
    have hin := pe_intsHot (X := X) (i := 1) (p1 := p2) (p2 := p3) (p3 := p4) (p4 := p5) (p5 := p6) (pos := p7) t.hot t.n1 (.inl (t.loc _ (by simp))) (by decide) (by decide) c1 c2 c3 c4 (fun z hz => ⟨(c5 z hz).1.1, (c5 z hz).1.2, fun e => (c5 z hz).2.elim (fun n => absurd e n) id⟩) (t.blt _ (by simp))
    have sm : PE X _ (tCB rSumH (tCons tIntsH tNil)) := pe_callB (pos := p8) (p := p1) (callSumHot t.hot) (t.glo ("sum" : Str) (by simp)) (t.blt _ (by simp)) (by decide +kernel) (pa_cons hin pa_nil)
    have ve : PE X v (tE0 a true) := pe_isE t h2 (fun pos => pe_bltn (v := .ty "ValueError") (t.glo _ (by simp)) (t.blt _ (by simp)) (by decide +kernel) rfl) (fun w r => r) t.ve
    have nv : PT X (.UnaryOp .Not v p11) (tNot (tB (tE0 a true))) := pt_not (pt_val ve (by
      unfold isE at h2
      split at h2
      · intro _; rfl
      · cases h2))
    exact (pw_or (pt_cmpR op_ne sm pe_int rfl) (pw_or1 nv)).pt
  · cases h
theorem ps_ifE {X : Cx} {a D : Addr} {oe : Obj} {ans : Str → Bool} (t : TermX X a D oe ans) {x : Stmt} (h : ifE x = true) :
    PS X x (tIfS (tOr (tTest (tOp rNe (tCB rSumH (tCons tIntsH tNil)) (tC (.int 1)))) (tNot (tB (tE0 a true)))) tNever tNext) := by
  unfold ifE at h
  split at h
  · exact ps_if (pt_testE t h) pss_never pss_nil
  · cases h
theorem ps_lastE {X : Cx} {a D : Addr} {oe : Obj} {ans : Str → Bool} (t : TermX X a D oe ans) {x : Stmt} (h : lastE x = true) :
    PS X x (tRet (tTup (tCons (tC (.str "error")) (tCons (tOp (rIx X.K) (tVar 2) (tBM X.K "list" (rIndex X.K) (tVar 1) (tCons (tC (.bl true)) tNil))) tNil)))) := by
  unfold lastE at h
  split at h
  · rename_i er p1 p2 k p3 fl p4 ix ap p5 p6 cp p7 p8 p9 p10
    simp only [Bool.and_eq_true, decide_eq_true_eq] at h
    obtain ⟨⟨⟨⟨rfl, rfl⟩, rfl⟩, rfl⟩, h1⟩ := h
    have hix : PE X (.Call (.Attribute (.Name ("flags" : Str) p4) "index" ap) [.Constant (.bool true) p5 p6] [] cp) (tBM X.K "list" (rIndex X.K) (tVar 1) (tCons (tC (.bl true)) tNil)) := pe_bm (X := X) (cpos := cp) (apos := ap) PySem.F.plainAttrs_list PySem.F.slot_list_index PySem.F.type_list_index mt_index (pe_var (pos := p4) t.n1 (.inl (t.loc _ (by simp)))) (pa_cons pe_bl pa_nil) rfl rfl h1
    exact ps_ret (pe_tup (pa_cons pe_str (pa_cons (pe_ix ix_seq (pe_var t.n2 (.inl (t.loc _ (by simp)))) hix fun _ _ => rfl) pa_nil)))
  · cases h
theorem sum_one (c : Nat) (hc : c < 11) : preSum (fun j => b01 (((List.range 11).map fun j => decide (j = c))[j]?.getD false)) 11 = 1 := by
  have : c = 0 ∨ c = 1 ∨ c = 2 ∨ c = 3 ∨ c = 4 ∨ c = 5 ∨ c = 6 ∨ c = 7 ∨ c = 8 ∨ c = 9 ∨ c = 10 := by omega
  rcases this with e | e | e | e | e | e | e | e | e | e | e <;> subst e <;> decide
/-- the whole text: the answer is the class's name -/
theorem term_body {X : Cx} {a D : Addr} {oe : Obj} {ans : Str → Bool} (t : TermX X a D oe ans) {body : List Stmt} (h : ckTerm body = true) :
    ∃ tb, PSs X body tb ∧ ∀ (De : Ends) (σ : L2.St) (H : Hp) (c : Nat) (nm : Str), σ.length = 3 → σ[0]? = some (some (.ref a)) → gAll.map ans = (List.range 11).map (fun j => decide (j = c)) → gAll[c]? = some nm →
      (∀ H' p, Ext H H' → H p = none → H' p = some (.tup [.str "error", .str nm]) → De.rt (.ref p) H') → tb De σ H := by
  unfold ckTerm at h
  split at h
  · rename_i s1 s2 s3 s4 s5 s6 s7 s8
    simp only [Bool.and_eq_true] at h
    obtain ⟨⟨⟨⟨⟨⟨⟨h1, h2⟩, h3⟩, h4⟩, h5⟩, h6⟩, h7⟩, h8⟩ := h
    have l1 : X.env.scope.names.lookup ("flags" : Str) = some .local := t.loc _ (by simp)
    have l2 : X.env.scope.names.lookup ("kinds" : Str) = some .local := t.loc _ (by simp)
    have p1 := pe_setL (X := X) (i := 1) h1 t.nd t.n1 l1 fun es he => pa_isEs t g1 es (by decide) he
    have p2 := pe_addL (X := X) (i := 1) h2 t.nd t.n1 l1 (fun es he => pa_isEs t g2 es (by decide) he) (by decide) (by decide)
    have p3 := pe_addL (X := X) (i := 1) h3 t.nd t.n1 l1 (fun es he => pa_isEs t g3 es (by decide) he) (by decide) (by decide)
    have p4 := pe_addL (X := X) (i := 1) h4 t.nd t.n1 l1 (fun es he => pa_isEs t g4 es (by decide) he) (by decide) (by decide)
    have p5 := pe_setL (X := X) (i := 2) h5 t.nd t.n2 l2 fun es he => pa_strs k1 es he
    have p6 := pe_addL (X := X) (i := 2) h6 t.nd t.n2 l2 (fun es he => pa_strs k2 es he) (by decide) (by decide)
    have p7 := ps_ifE t h7
    have p8 := ps_lastE t h8
    refine ⟨_, pss_cons p1 (pss_cons p2 (pss_cons p3 (pss_cons p4 (pss_cons p5 (pss_cons p6 (pss_cons p7 (pss_one p8))))))), fun De σ H c nm hl h0 hb hn hq => ?_⟩
    obtain ⟨v0, v1, v2, rfl⟩ : ∃ v0 v1 v2, σ = [v0, v1, v2] := by
      match σ, hl with
      | [v0, v1, v2], _ => exact ⟨v0, v1, v2, rfl⟩
    have h0 : v0 = some (.ref a) := by simpa using h0
    subst h0
    refine ⟨rfl, line6 (by simp [g1, g2, g3, g4, k1, k2]), fun q1 e1 => ?_⟩
    have x1 : Ext H (upd H q1 (.lst (g1.map fun C => .bl (ans C)))) := (Ext.refl H).new e1
    generalize hH1 : upd H q1 (.lst (g1.map fun C => .bl (ans C))) = H1 at x1
    have k1' : H1 q1 = some (.lst (g1.map fun C => .bl (ans C))) := by rw [← hH1, upd_same]
    show tSeq _ _ De [some (.ref a), some (.ref q1), v2] H1
    refine ⟨_, rfl, rfl, line6 (by simp [g1, g2, g3, g4, k1, k2]), fun r2 e2 => ?_⟩
    generalize hK1 : upd H1 r2 (.lst (g2.map fun C => .bl (ans C))) = K1
    have y1 : Ext H1 K1 := by rw [← hK1]; exact (Ext.refl _).new e2
    have m1 : K1 r2 = some (.lst (g2.map fun C => .bl (ans C))) := by rw [← hK1, upd_same]
    refine ⟨q1, r2, _, _, rfl, rfl, y1 _ _ k1', m1, line6 (by simp [g1, g2, g3, g4, k1, k2]), fun q2 e2 => ?_⟩
    rw [← List.map_append]
    generalize hH2 : upd K1 q2 (.lst ((g1 ++ g2).map fun C => .bl (ans C))) = H2
    have x2 : Ext H H2 := by rw [← hH2]; exact (x1.trans y1).new e2
    have k2' : H2 q2 = some (.lst ((g1 ++ g2).map fun C => .bl (ans C))) := by rw [← hH2, upd_same]
    show tSeq _ _ De [some (.ref a), some (.ref q2), v2] H2
    refine ⟨_, rfl, rfl, line6 (by simp [g1, g2, g3, g4, k1, k2]), fun r3 e3 => ?_⟩
    generalize hK2 : upd H2 r3 (.lst (g3.map fun C => .bl (ans C))) = K2
    have y2 : Ext H2 K2 := by rw [← hK2]; exact (Ext.refl _).new e3
    have m2 : K2 r3 = some (.lst (g3.map fun C => .bl (ans C))) := by rw [← hK2, upd_same]
    refine ⟨q2, r3, _, _, rfl, rfl, y2 _ _ k2', m2, line6 (by simp [g1, g2, g3, g4, k1, k2]), fun q3 e3 => ?_⟩
    rw [← List.map_append]
    generalize hH3 : upd K2 q3 (.lst ((g1 ++ g2 ++ g3).map fun C => .bl (ans C))) = H3
    have x3 : Ext H H3 := by rw [← hH3]; exact (x2.trans y2).new e3
    have k3' : H3 q3 = some (.lst ((g1 ++ g2 ++ g3).map fun C => .bl (ans C))) := by rw [← hH3, upd_same]
    show tSeq _ _ De [some (.ref a), some (.ref q3), v2] H3
    refine ⟨_, rfl, rfl, line6 (by simp [g1, g2, g3, g4, k1, k2]), fun r4 e4 => ?_⟩
    generalize hK3 : upd H3 r4 (.lst (g4.map fun C => .bl (ans C))) = K3
    have y3 : Ext H3 K3 := by rw [← hK3]; exact (Ext.refl _).new e4
    have m3 : K3 r4 = some (.lst (g4.map fun C => .bl (ans C))) := by rw [← hK3, upd_same]
    refine ⟨q3, r4, _, _, rfl, rfl, y3 _ _ k3', m3, line6 (by simp [g1, g2, g3, g4, k1, k2]), fun q4 e4 => ?_⟩
    rw [← List.map_append]
    generalize hH4 : upd K3 q4 (.lst ((g1 ++ g2 ++ g3 ++ g4).map fun C => .bl (ans C))) = H4
    have x4 : Ext H H4 := by rw [← hH4]; exact (x3.trans y3).new e4
    have k4' : H4 q4 = some (.lst ((g1 ++ g2 ++ g3 ++ g4).map fun C => .bl (ans C))) := by rw [← hH4, upd_same]
    show tSeq _ _ De [some (.ref a), some (.ref q4), v2] H4
    refine ⟨line6 (by simp [g1, g2, g3, g4, k1, k2]), fun q5 e5 => ?_⟩
    generalize hH5 : upd H4 q5 (.lst (k1.map .str)) = H5
    have y5 : Ext H4 H5 := by rw [← hH5]; exact (Ext.refl _).new e5
    have k5' : H5 q5 = some (.lst (k1.map .str)) := by rw [← hH5, upd_same]
    show tSeq _ _ De [some (.ref a), some (.ref q4), some (.ref q5)] H5
    refine ⟨_, rfl, line6 (by simp [g1, g2, g3, g4, k1, k2]), fun r6 e6 => ?_⟩
    generalize hK5 : upd H5 r6 (.lst (k2.map .str)) = K5
    have y6 : Ext H5 K5 := by rw [← hK5]; exact (Ext.refl _).new e6
    have m5 : K5 r6 = some (.lst (k2.map .str)) := by rw [← hK5, upd_same]
    refine ⟨q5, r6, _, _, rfl, rfl, y6 _ _ k5', m5, line6 (by simp [g1, g2, g3, g4, k1, k2]), fun q6 e6 => ?_⟩
    rw [← List.map_append]
    generalize hH6 : upd K5 q6 (.lst ((k1 ++ k2).map .str)) = H6
    have y7 : Ext H4 H6 := by rw [← hH6]; exact (y5.trans y6).new e6
    have k6' : H6 q6 = some (.lst ((k1 ++ k2).map .str)) := by rw [← hH6, upd_same]
    have f6 : H6 q4 = some (.lst ((gAll.map ans).map V.bl)) := by
      rw [y7 _ _ k4', List.map_map]
      rfl
    rw [hb] at f6
    have hc : c < 11 := (List.getElem?_eq_some_iff.mp hn).1
    show tSeq _ _ De [some (.ref a), some (.ref q4), some (.ref q6)] H6
    refine ⟨q4, (List.range 11).map (fun j => decide (j = c)), rfl, f6, fun q7 e7 => ?_⟩
    generalize hH7 : upd H6 q7 (.lst (((List.range 11).map (fun j => decide (j = c))).map fun b => V.int (b01 b))) = H7
    have y8 : Ext H6 H7 := by rw [← hH7]; exact (Ext.refl _).new e7
    have k7 : H7 q7 = some (.lst (((List.range 11).map (fun j => decide (j = c))).map fun b => V.int (b01 b))) := by rw [← hH7, upd_same]
    refine ⟨q7, (List.range 11).map (fun j => decide (j = c)), rfl, by simp, k7, ?_⟩
    have e1 : preSum (fun j => b01 (((List.range 11).map fun j => decide (j = c))[j]?.getD false)) ((List.range 11).map fun j => decide (j = c)).length = 1 := by
      rw [List.length_map, List.length_range]
      exact sum_one c hc
    rw [e1]
    refine ⟨rfl, _, rfl, ?_⟩
    show if (!decide (V.int 1 = V.int 1)) = true then _ else _
    rw [if_neg (by simp)]
    refine ⟨rfl, true, rfl, ?_⟩
    show if (!true) = true then _ else _
    rw [if_neg (by simp)]
    have f7 := y8 _ _ f6
    have k8 := y8 _ _ k6'
    have eN : (k1 ++ k2) = gAll := rfl
    rw [eN] at k8
    refine ⟨_, rfl, ⟨_, rfl, .inl ⟨rfl, _, SqL.of f7⟩, q4, _, .bl true, c, .bl true, rfl, rfl, SqL.of f7, rfl, ?_, ?_, rfl, ?_, ?_⟩⟩
    · rw [List.all_eq_true]
      intro v hv
      rw [List.map_map] at hv
      obtain ⟨j, _, e⟩ := List.mem_map.mp hv
      rw [← e]
      rfl
    · rw [List.getElem?_map, List.getElem?_map, List.getElem?_range hc]
      simp
    · intro m z hm hz
      rw [List.getElem?_map, List.getElem?_map, List.getElem?_range (by omega)] at hz
      have : z = .bl (decide (m = c)) := by simpa using hz.symm
      rw [this]
      have : decide (m = c) = false := by simp; omega
      rw [this]
      rfl
    · refine .inl ⟨q6, _, (c : Nat), .str nm, rfl, rfl, SqL.of k8, ?_, line6 (by simp [g1, g2, g3, g4, k1, k2]), fun q8 e8 => ?_⟩
      · have e : (gAll.map V.str)[c]? = some (V.str nm) := by rw [List.getElem?_map, hn]; rfl
        exact atI_nat e
      · exact hq _ q8 (((x4.trans y7).trans y8).new e8) (((x4.trans y7).trans y8).non e8) upd_same
  · cases h
end
end Mp

set_option maxRecDepth 100000
set_option maxHeartbeats 4000000
/-! Mp12: `_law_told(lambda: e)`. -/
namespace Mp
open PySem PySem.Spec PyProof.Rows L2 HotX
/-! ### `_law_term` called in the suite -/
theorem term_run {CX : CXT} {P : Program} {w : World} {K : PySem.W.Frag} {mg : Str → Option Value} {base : Heap} {x qual : Str} {params : Arguments} {body : List Stmt} {scope : Scope} {f : Addr} {fd : FuncData} {N ps : List Str}
    (F : FunD K x qual params body scope [] [] f fd) (S : FnScope N ps scope) {A : Around} {outer : List Env} {s : Shared} {H : Hp} {args : Args} {us : List Value} {vs : List V} {Q : VK} {E : XK} {p : Addr × Obj} (hd : A.depth < recursionLimit)
    (hpin : L2H.PinOk outer H s p) (e0 : Env0 P w K mg base A outer s H) (hb : BindsTo s fd args (ps.zip us)) (r : Vals vs us) (hl : vs.length = ps.length)
    (hbody : ∀ cdv, ∃ t, PSs (L2H.cxH CX P w K mg base N qual scope f cdv A outer s H E p) body t ∧ t { nx := fun _ H' => Q .non H', rt := Q } (L2.start N vs) H) :
    codeAny (model P w) A (.call (.ref f) args) (CR CX outer P w H s Q E) s := by
  obtain ⟨oc, od, dV, kV, doc, pm, an, cdv, ct, osl, rfl, lk, hcd, _, _⟩ := F.ex
  have bk : ∀ b o, base.get? b = some o → s.heap.get? b = some o := fun b o e => (e0.bs b o e).1
  have KX : K.In s.heap := e0.mod.kin.keeps bk
  have hkind : ∀ y ∈ ps.zip us, scope.names.lookup y.1 = some .local ∨ (scope.names.lookup y.1 = some .cell ∧ ((cellsFrom (s.heap.objs.size + 1) scope.names []).lookup y.1).isSome = true) := fun y hy => by
    have hm : y.1 ∈ ps := (List.of_mem_zip (show (y.1, y.2) ∈ ps.zip us from hy)).1
    rcases S.par y.1 hm with q | q
    · exact .inl q
    · exact .inr ⟨q, PySem.W.cellsFrom_some _ _ _ (.inl q)⟩
  refine codeAny_call_function hd (KX _ _ lk) rfl S.co S.gen rfl (PySem.W.codeRec_of KX hcd) (hb _ _ _ _ ?_)
  refine wpAny_newFunctionEnv_cells S.kind hkind fun env he s1 ic => ?_
  subst he
  refine ⟨(e0.mod.nolimit.keeps bk).keeps ic.toInCall.keep, codeAny_func ?_⟩
  obtain ⟨t, ht, hq⟩ := hbody cdv
  refine wpAny_mono (ht.run [] s1 (L2.start N vs) H _ (L2H.inv_startH S hpin e0 hl r ic) hq) (fun fl s' hs => ?_) fun e s' hs => hs
  cases fl with
  | ret u =>
    obtain ⟨v, σ', H', J, rv, q⟩ := hs
    exact ⟨v, H', J.os, J.bare, J.base, J.hok, rv, q⟩
  | next =>
    obtain ⟨σ', H', J, q⟩ := hs
    exact ⟨V.non, H', J.os, J.bare, J.base, J.hok, rfl, q⟩
  | brk =>
    obtain ⟨_, _, _, q⟩ := hs
    exact q.elim
  | cont =>
    obtain ⟨_, _, _, q⟩ := hs
    exact q.elim
/-- what is known of the exceptions and of `_law_term` -/
structure ErrOk (K : PySem.W.Frag) (mg : Str → Option Value) (Ce : Nat → Addr) : Prop where
  ex : ∀ (c : Nat) (C : Str), gAll[c]? = some C → mg C = some (.ref (Ce c)) ∧ ExcC K (Ce c) ∧ PySem.W.kitOne K (.ref (Ce c)) (.type "ValueError") = some true
  two : ∀ (c c' : Nat), c < 11 → c' < 11 → PySem.W.kitOne K (.ref (Ce c)) (.ref (Ce c')) = some (decide (c' = c))
  blt : ∀ x ∈ ([("isinstance" : Str), ("sum" : Str), ("int" : Str), ("ValueError" : Str)] : List Str), mg x = none
  bent : ∃ b, mg "BentError" = some (.ref b) ∧ ∀ c, c < 11 → PySem.W.exmOne K (.ref (Ce c)) (.ref b) = some true
def globs (s : Scope) (l : List Str) : Bool := l.all fun x => decide (s.names.lookup x = some .globalImplicit)
structure TermOk (K : PySem.W.Frag) (mg : Str → Option Value) : Prop where
  ex : ∃ (params : Arguments) (body : List Stmt) (scope : Scope) (f : Addr) (fd : FuncData), mg "_law_term" = some (.ref f) ∧ FunD K "_law_term" "_law_term" params body scope [] [] f fd ∧ FnScope [("e" : Str), ("flags" : Str), ("kinds" : Str)] [("e" : Str)] scope ∧ Binds K fd [("e" : Str)] [] ∧
    ckTerm body = true ∧ globs scope (("isinstance" : Str) :: ("sum" : Str) :: ("ValueError" : Str) :: gAll) = true ∧ scope.names.lookup ("e" : Str) = some .local ∧ scope.names.lookup ("flags" : Str) = some .local ∧ scope.names.lookup ("kinds" : Str) = some .local
/-- the number of a name -/
def numOf (C : Str) : Nat := gAll.findIdx (· == C)
theorem numOf_at : ∀ (c : Nat) (C : Str), gAll[c]? = some C → numOf C = c := by
  intro c C h
  have hc : c < 11 := (List.getElem?_eq_some_iff.mp h).1
  have : c = 0 ∨ c = 1 ∨ c = 2 ∨ c = 3 ∨ c = 4 ∨ c = 5 ∨ c = 6 ∨ c = 7 ∨ c = 8 ∨ c = 9 ∨ c = 10 := by omega
  rcases this with e | e | e | e | e | e | e | e | e | e | e <;> subst e <;> cases h <;> decide
theorem ans_all (c : Nat) : gAll.map (fun C => decide (numOf C = c)) = (List.range 11).map fun j => decide (j = c) := by
  have e : gAll.map numOf = List.range 11 := by decide
  rw [← e, List.map_map]
  rfl
section
variable {X : Cx} {Ce : Nat → Addr}
/-- `_law_term(e)` -/
theorem pe_term {a : Addr} {oe : Obj} {c : Nat} {nm : Str} {i : Nat} {p q pos : Pos} (TO : TermOk X.K X.mg) (EO : ErrOk X.K X.mg Ce) (hg : Gl X "_law_term") (hi : X.N[i]? = some ("e" : Str)) (hv : Vis X.env.scope "e") (hdp : X.A.depth < recursionLimit)
    (hh : X.A.handled = some (.ref a)) (hp : (a, oe) ∈ X.pn) (hz : L2N.Zn (.ref (Ce c)) none oe) (hf : ∃ vs, oe.data = .fields vs) (hn : gAll[c]? = some nm) :
    PE X (.Call (.Name "_law_term" p) [.Name "e" q] [] pos) (fun σ H Q => σ[i]? = some (some (.ref a)) ∧ ∀ H' b, Ext H H' → H b = none → H' b = some (.tup [.str "error", .str nm]) → Q (.ref b) H') := by
  refine ⟨fun pins s σ H Q I h => ?_⟩
  obtain ⟨h0, hq⟩ := h
  obtain ⟨params, body, scope, f, fd, hm, F, S, hb, hck, hgl, l0, l1, l2⟩ := TO.ex
  refine wpAny_Call_Name_kw (ld_glob I hg hm ?_)
  have ha : PA X [.Name ("e" : Str) q] (tCons (tVar i) tNil) := pa_cons (pe_var hi hv) pa_nil
  refine PySem.W.callWith_K (h₀ := X.base) I.ok.mod.kin F.kp (thn (ha.run pos pins s σ H (fun vs H1 => vs = [.ref a] ∧ H1 = H) I ⟨_, h0, rfl, rfl⟩) fun us s1 ⟨vs, H1, I1, r, e1, e2⟩ => ⟨I1.kIn, ?_⟩) rfl rfl
  subst e1
  subst e2
  have P1 := I1.pin (a, oe) (List.mem_append_left _ hp)
  have hpin : L2H.PinOk X.stack H1 s1 (a, oe) := ⟨P1.1, P1.2.1, fun z => (List.mem_cons.mp (I1.stkSub a z)).elim P1.2.2.1 P1.2.2.2.1, P1.2.2.2.2⟩
  have b := hb s1 us I1.kIn (by rw [List.append_nil, ← r.length]; rfl)
  rw [List.append_nil] at b
  have rc : codeAny (model X.prog X.w) X.A (.call (.ref f) ⟨us, []⟩) (CR C8.CX0 X.stack X.prog X.w H1 s1 Q C8.E0) s1 := by
    refine term_run F S hdp hpin I1.env0 b r rfl fun cdv => ?_
    have gs : ∀ x ∈ (("isinstance" : Str) :: ("sum" : Str) :: ("ValueError" : Str) :: gAll), scope.names.lookup x = some .globalImplicit := fun x hx => of_decide_eq_true (List.all_eq_true.mp hgl x hx)
    have t : TermX (L2H.cxH C8.CX0 X.prog X.w X.K X.mg X.base [("e" : Str), ("flags" : Str), ("kinds" : Str)] "_law_term" scope f cdv X.A X.stack s1 H1 C8.E0 (a, oe)) a (Ce c) oe (fun C => decide (numOf C = c)) := by
      obtain ⟨vs, hf⟩ := hf
      refine ⟨⟨(a, oe), ⟨hh, vs, hf, hz.2.2 vs hf⟩, List.mem_cons_self⟩, List.mem_cons_self, (EO.ex c nm hn).2.1, hz.1, hz.2.1, ⟨vs, hf⟩, rfl, fun x hx => ?_, fun x hx => gs x hx, EO.blt, fun C hC => ?_, (EO.ex c nm hn).2.2⟩
      · simp only [List.mem_cons, List.not_mem_nil, or_false] at hx
        rcases hx with e | e | e <;> rw [e]
        · exact l0
        · exact l1
        · exact l2
      · obtain ⟨j, hj, e⟩ := List.mem_iff_getElem.mp hC
        have ej : gAll[j]? = some C := by rw [List.getElem?_eq_getElem hj, e]
        refine ⟨Ce j, (EO.ex j C ej).1, ?_⟩
        rw [show decide (numOf C = c) = decide (j = c) by rw [numOf_at j C ej]]
        exact EO.two c j (List.getElem?_eq_some_iff.mp hn).1 hj
    obtain ⟨tb, h1, h2⟩ := term_body t hck
    exact ⟨tb, h1, h2 _ _ H1 c nm rfl rfl (ans_all c) hn fun H' b x hb e => hq H' b x hb e⟩
  refine wpAny_call (codeAny_mono rc fun r s2 hq => ?_)
  cases r with
  | error e => exact (show False from hq).elim
  | ok fl =>
    cases fl with
    | ret u => exact I1.after hq
    | next => exact False.elim hq
    | brk => exact False.elim hq
    | cont => exact False.elim hq
end
/-! ### the lambda called -/
section
variable {X : Cx} {pins : List (Addr × Obj)} {σ : L2.St} {H : Hp} {s : Shared}
theorem pe_actN {CXg : CXT} {Eg : XK} {Ng : List Str} {qg : Str} {sg : Scope} {g f c' : Addr} {cdg pm ctv : Value} {params : Arguments} {body : Expr} {scope : Scope} {k i : Nat} {a : Str} {pn : List (Addr × Obj)} {xe : Value → Shared → Prop} {W : WX} {E : XK} {tb : TE} {p1 p2 : Pos}
    (I : Inv X pins σ H s) (L : LamX.LamS X.env.scope scope) (hf : s.heap.get? f = some (PySem.W.kla_obj "<lambda>" (X.env.qual ++ "<lambda>") params body scope (cloFrom X.env.cells scope.names []) pm c' ctv)) (hfn : H f = none) (hfr : f ∉ frs X.stack)
    (hbind : bindArgs (PySem.W.kla_fn "<lambda>" (X.env.qual ++ "<lambda>") params body scope (cloFrom X.env.cells scope.names []) pm (.ref c') ctv) ⟨[], []⟩ = pure [])
    (tk : L2N.Takes ((cxOf CXg X.prog X.w X.K X.mg X.base Ng qg sg g cdg X.A X.stack s H Eg).tr pn xe) W) (hr : Room (k + 1) (X.A.deeper (envOfC qg sg s.heap.objs.size g cdg)))
    (hbody : ∀ (A : Around) (outer : List Env) (s : Shared) (H : Hp), Room k (A.deeper (LamX.lamEnv X scope s.heap.objs.size f c')) → PE (lamCxN X A outer s H E scope f c') body tb)
    (hN : Ng[i]? = some a) (hv : Vis sg a) (hd : (a == ("__debug__" : Str)) = false) (hcd : (a == ("__classdict__" : Str)) = false) :
    PE ((cxOf CXg X.prog X.w X.K X.mg X.base Ng qg sg g cdg X.A X.stack s H Eg).tr pn xe) (.Call (.Name a p1) [] [] p2)
      (fun σZ HZ Q => σZ[i]? = some (some (.ref f)) ∧ HZ c' = some (LamX.CodeO c' (X.env.qual ++ "<lambda>")) ∧ (∀ cls d H', E cls d H' → W cls d σZ H') ∧ tb σ HZ Q) := by
  refine ⟨fun pinsZ sZ σZ HZ Q IZ h => ?_⟩
  obtain ⟨hs, hc, hW, ht⟩ := h
  refine wpAny_Call_Name_kw (thn ((pe_var (pos := p1) (i := i) hN hv hd hcd).run pinsZ sZ σZ HZ (fun v H1 => v = .ref f ∧ H1 = HZ) IZ ⟨.ref f, hs, rfl, rfl⟩) fun u s1 ⟨v, H1, I1, r1, ev, eH⟩ => ?_)
  subst ev
  rw [eH] at I1
  obtain rfl : u = Value.ref f := r1
  have of1 : s1.heap.get? f = some (PySem.W.kla_obj "<lambda>" (X.env.qual ++ "<lambda>") params body scope (cloFrom X.env.cells scope.names []) pm c' ctv) := I1.base.keep f _ hf hfn hfr (fun z => nomatch (show f ∈ ([] : List Addr) from z))
  refine PySem.W.callWith_F0 ⟨_, _, _, _, of1⟩ ?_
  have un : Un (frs X.stack) [] H HZ s.heap s1.heap := I1.base
  obtain ⟨⟨oc, vs, t, hoc, hdc, hvc⟩, _, _⟩ := I1.hok c' _ hc
  have rc : codeAny (model X.prog X.w) (X.A.deeper (envOfC qg sg s.heap.objs.size g cdg)) (.call (.ref f) ⟨[], []⟩) (CR (L2N.CX X.prog X.w) (envOfC qg sg s.heap.objs.size g cdg :: X.stack) X.prog X.w HZ s1 Q E) s1 := by
    refine PySem.W.kla_callFunE hr.depth of1 rfl L.co L.gen rfl ⟨c', oc, vs, t, rfl, hoc, hdc, hvc⟩ ?_
    rw [hbind]
    refine wpAny_pure (wpAny_newFunctionEnv (fun y hy => (L.own y hy).2) (fun y hy => absurd hy (by simp)) (fun h₁ hns hsb => ⟨I1.nolimit.fresh _ hsb, ?_⟩) L.kind)
    show codeAny _ _ (.expr body (LamX.lamEnv X scope s1.heap.objs.size f c')) _ _
    have kp : ∀ b o, s1.heap.get? b = some o → h₁.get? b = some o := fun b o e => hsb.extBut b o (Nat.ne_of_lt (Heap.lt_size e)) (Heap.get?_push_of_some _ e)
    have J := LamX.lam_start2 (E := E) (f := f) (c' := c') (tk := s1.toks + ([] : List (Str × Value)).length) I L I1.env0 hr.hd un hns kp
    have JN : Inv (lamCxN X (X.A.deeper (envOfC qg sg s.heap.objs.size g cdg)) (envOfC qg sg s.heap.objs.size g cdg :: X.stack) s1 HZ E scope f c') [] σ HZ { s1 with heap := h₁, toks := s1.toks + ([] : List (Str × Value)).length } := J.wish _
    refine PySem.W.kla_codeExpr (wpAny_mono ((hbody _ _ s1 HZ (hr.deeper _)).run [] _ _ HZ Q JN ht) (fun v s' hq => ?_) fun e s' hq => hq)
    obtain ⟨w', H', J', rv, q⟩ := hq
    exact ⟨w', H', J'.os, J'.bare, J'.base, J'.hok, rv, q⟩
  refine wpAny_call (codeAny_mono rc fun r s' hq => ?_)
  cases r with
  | error e => exact tk e s' (L2N.XE.of_call I1 hW hq)
  | ok fl =>
    cases fl with
    | ret u => exact I1.after hq
    | next => exact False.elim hq
    | brk => exact False.elim hq
    | cont => exact False.elim hq
end
/-! ### `_law_told` -/
def ckTold : List Stmt → Bool
  | [.Try [.Return (some (.Call (.Name d _) [] [] _)) _] [.ExceptHandler (some (.Name x _)) (some n) [.Return (some (.Call (.Name f _) [.Name e _] [] _)) _] _] [] [] _] =>
    decide (d = ("deed" : Str)) && decide (x = ("BentError" : Str)) && decide (n = ("e" : Str)) && decide (f = ("_law_term" : Str)) && decide (e = ("e" : Str))
  | _ => false
structure ToldDef (K : PySem.W.Frag) (mg : Str → Option Value) : Prop where
  ex : ∃ (params : Arguments) (body : List Stmt) (scope : Scope) (f : Addr) (fd : FuncData), mg "_law_told" = some (.ref f) ∧ FunD K "_law_told" "_law_told" params body scope [] [] f fd ∧ FnScope [("deed" : Str), ("e" : Str)] [("deed" : Str)] scope ∧ Binds K fd [("deed" : Str)] [] ∧
    ckTold body = true ∧ globs scope [("BentError" : Str), ("_law_term" : Str)] = true ∧ scope.names.lookup ("deed" : Str) = some .local ∧ scope.names.lookup ("e" : Str) = some .local
/-- the answers -/
def NamesG (G : Nat → Option D) : Prop := ∀ c d, G (1000 + c) = some d → ∃ nm, gAll[c]? = some nm ∧ d = .tuple [.str "error", .str nm]
theorem stepN {θ : Th} {H H' : Hp} {T : List (Addr × Str)} (x : LamX.ExtN H H') : Step θ H θ H' := ⟨rfl, Nat.le_refl _, fun _ _ h => .inl h, fun _ h => h, fun _ _ h => .inl h, fun b o e n _ => x b o e n, fun b n o e => by
  cases o with
  | tbl ps => exact ⟨ps, rfl⟩
  | _ => exact n _ (x b _ e fun _ z => by cases z)⟩
theorem live {H : Hp} {b : Addr} (h : ¬ Nil H b) : ∃ o, H b = some o ∧ ∀ ps, o ≠ .tbl ps := by
  cases e : H b with
  | none => exact (h (.of e)).elim
  | some o => exact ⟨o, rfl, fun ps z => h fun u eu => ⟨ps, by rw [e] at eu; cases eu; exact z⟩⟩
theorem srelN {K : PySem.W.Frag} {T : List (Addr × Str)} {H H' : Hp} {θ : Th} {μ : Store} (x : LamX.ExtN H H') (hT : LamX.Tabs T H') (h : SRel K T H θ μ) : SRel K T H' θ μ :=
  ⟨h.len, h.nd, fun k c e => (h.at_ k c e).move (fun d v r => r.step (stepN (T := T) x)) rfl (fun b hb => by
    obtain ⟨o, e1, e2⟩ := live (h.nn k b hb)
    rw [e1, x b o e1 e2]), hT, fun b hb => ⟨fun n => (h.hz b hb).1 ((stepN (T := T) (θ := θ) x).dom b n), (h.hz b hb).2⟩, fun k b hb n => h.nn k b hb ((stepN (T := T) (θ := θ) x).dom b n)⟩
theorem extN_of {H H' : Hp} (x : Ext H H') : LamX.ExtN H H' := fun b o e _ => x b o e
theorem stepExt {θ : Th} {H H' : Hp} (x : Ext H H') : Step θ H θ H' := stepN (T := []) (extN_of x)
theorem srelExt {K : PySem.W.Frag} {T : List (Addr × Str)} {H H' : Hp} {θ : Th} {μ : Store} (x : Ext H H') (h : SRel K T H θ μ) : SRel K T H' θ μ := srelN (extN_of x) (h.tab.ext x) h
section
variable {X : Cx} {T : List (Addr × Str)} {Ce : Nat → Addr} {G : Nat → Option D} {call : Nat → List Val → M D} {k : Nat} {W : WX}
theorem told_rule {c P : Addr} (TO : TermOk X.K X.mg) (EO : ErrOk X.K X.mg Ce) (TD : ToldDef X.K X.mg) (NG : NamesG G) (TB : LamX.TabB X.base X.mg c P) (hcode : X.env.code = .ref c) (hmT : (P, X.env.qual ++ "<lambda>") ∈ T) (hu : ∀ p ∈ T, p.1 = P → p.2 = X.env.qual ++ "<lambda>")
    (hr : Room (k + 2) X.A) : ToldRule T Ce G call k X W := by
  intro me params body scope p lpos pos hg hna hlam hbody
  have L := LamX.lamS_by hlam
  have hp0 : params = ⟨[], [], none, [], [], none, []⟩ := by
    unfold noArgs at hna
    split at hna
    · rfl
    · cases hna
  obtain ⟨paramsG, bodyG, sg, g, fd, hm, F, S, hb, hck, hgl, l0, l1⟩ := TD.ex
  obtain ⟨bn, hbn, hex⟩ := EO.bent
  refine ⟨fun pins s σ H Q I h => ?_⟩
  obtain ⟨en, μ, θ, er, sr, h⟩ := h
  refine wpAny_Call_Name_kw (ld_glob I hg hm ?_)
  refine PySem.W.callWith_K (h₀ := X.base) I.ok.mod.kin F.kp ?_ (by rfl) (by rfl)
  show wpAny _ _ (spliced ((false, eval (.Lambda params body scope lpos) X.env) :: backTo pos (starEach [] X.env))) _ _ s
  refine Calls.spliced_cons (LamX.lam_make2 I TB hcode hmT hu sr.tab (by rw [hp0]; rfl) (L.has I.ok) fun f c' pm' ctv H1 s' I1 eN T1 hf hfn hfr hco => ?_)
  refine Calls.spliced_nil ⟨I1.kIn, ?_⟩
  have rc : codeAny (model X.prog X.w) X.A (.call (.ref g) ⟨[.ref f], []⟩) (CR C8.CX0 X.stack X.prog X.w H1 s' Q C8.E0) s' := by
    obtain ⟨oc, od, dV, kV, doc, pm, an, cdv, ct, osl, rfl, lk, hcd, _, _⟩ := F.ex
    refine LamX.run_ofS (N := [("deed" : Str), ("e" : Str)]) (ps := [("deed" : Str)]) (us := [.ref f]) (vs := [.ref f]) lk hcd S hr I1.env0 (hb s' [.ref f] I1.kIn rfl) (.cons rfl .nil) rfl fun hr' => ?_
    have gs : ∀ x ∈ [("BentError" : Str), ("_law_term" : Str)], sg.names.lookup x = some .globalImplicit := fun x hx => of_decide_eq_true (List.all_eq_true.mp hgl x hx)
    unfold ckTold at hck
    split at hck
    · rename_i d p1 p2 p3 x p4 n ff p5 e p6 p7 p8 p9 p10
      simp only [Bool.and_eq_true, decide_eq_true_eq] at hck
      obtain ⟨⟨⟨⟨rfl, rfl⟩, rfl⟩, rfl⟩, rfl⟩ := hck
      refine ⟨_, pss_one (L2N.ps_try_as (X := cxOf C8.CX0 X.prog X.w X.K X.mg X.base [("deed" : Str), ("e" : Str)] "_law_told" sg g cdv X.A X.stack s' H1 C8.E0) (i := 1) (c := .ref bn) (Wout := WF)
        (tb := fun W D σZ HZ => ∃ E : XK, σZ[0]? = some (some (.ref f)) ∧ HZ c' = some (LamX.CodeO c' (X.env.qual ++ "<lambda>")) ∧ (∀ cls d H', E cls d H' → W cls d σZ H') ∧ RE X.K T Ce G call (fun c d _ H => E c d H) me σ HZ D.rt)
        (ts := fun a cls d D σZ HZ => ∃ c nm, cls = .ref (Ce c) ∧ d = none ∧ gAll[c]? = some nm ∧ σZ[1]? = some (some (.ref a)) ∧ ∀ H' b, Ext HZ H' → HZ b = none → H' b = some (.tup [.str "error", .str nm]) → D.rt (.ref b) H')
        rfl rfl S.nd rfl l1 ⟨gs _ (by simp), by decide, .inl hbn⟩ takesF (fun W' pn xe tk _ => ?_) fun a oe cls d pn hz hf => ?_), ?_⟩
      · refine ⟨fun pins2 s2 σZ HZ D2 I2 ⟨E, q1, q2, q3, q4⟩ => ?_⟩
        have act := pe_actN (i := 0) (p1 := p1) (p2 := p2) (E := E) I1 L hf hfn hfr (by rw [hp0]; rfl) tk hr' (fun A outer s H hr2 => hbody A outer s H E f c' hr2) rfl (.inl l0) (by decide) (by decide)
        exact (pss_one (ps_ret (pos := p3) act)).run pins2 s2 σZ HZ D2 I2 ⟨q1, q2, q3, q4⟩
      · refine ⟨fun pins2 s2 σZ HZ D2 I2 ⟨c2, nm, e1, e2, hn, q1, q2⟩ => ?_⟩
        subst e1
        subst e2
        have pt := pe_term (X := (cxOf C8.CX0 X.prog X.w X.K X.mg X.base [("deed" : Str), ("e" : Str)] "_law_told" sg g cdv X.A X.stack s' H1 C8.E0).suite a ((a, oe) :: pn)) (i := 1) (p := p5) (q := p6) (pos := p7) TO EO (gs _ (by simp)) rfl (.inl l1) hr'.depth rfl List.mem_cons_self hz hf hn
        exact (pss_one (ps_ret (pos := p8) pt)).run pins2 s2 σZ HZ D2 I2 ⟨q1, q2⟩
      · refine ⟨fun cls d H' => ∃ c nm, cls = .ref (Ce c) ∧ d = none ∧ gAll[c]? = some nm ∧ ∀ H'' b, Ext H' H'' → H' b = none → H'' b = some (.tup [.str "error", .str nm]) → Q (.ref b) H'', rfl, hco, fun cls d H' ⟨c2, nm, e1, e2, hn, q⟩ => ?_, en, μ, θ, er.step (stepN (T := T) eN), srelN eN T1 sr, ?_⟩
        · rw [e1]
          exact ⟨true, hex c2 (List.getElem?_eq_some_iff.mp hn).1, fun _ a ha => ⟨c2, nm, rfl, e2, hn, rfl, q⟩, fun z => by cases z⟩
        · have h : Wp X.K T Ce (VR X.K) W σ θ H (match ev G call me en μ with
            | some (.exc c μ') => M.of (G (1000 + c)) μ'
            | r => r) Q := h
          have st0 : Step θ H θ H1 := stepN (T := T) eN
          cases q : ev G call me en μ with
          | none => rw [q] at h; exact h
          | some r =>
            rw [q] at h
            cases r with
            | ok d μ' => exact fun θ' H' v st sr rv => h θ' H' v (st0.trans st) sr rv
            | exc c2 μ' =>
              have h : Wp X.K T Ce (VR X.K) W σ θ H (M.of (G (1000 + c2)) μ') Q := h
              intro θ' H' st sr'
              cases q2 : G (1000 + c2) with
              | none => rw [q2] at h; exact h.elim
              | some d =>
                rw [q2] at h
                obtain ⟨nm, hn, rfl⟩ := NG c2 d q2
                refine ⟨c2, nm, rfl, rfl, hn, fun H'' b x hb e => ?_⟩
                have sr2 := srelExt x sr'
                refine h θ' H'' (.ref b) ((st0.trans st).trans (stepExt x)) sr2 (.tup e ?_ (.cons (.str _) (.cons (.str _) .nil)))
                exact sr'.fresh hb
    · cases hck
  refine wpAny_call (codeAny_mono rc fun r s2 hq => ?_)
  cases r with
  | error e => exact (show False from hq).elim
  | ok fl =>
    cases fl with
    | ret u => exact I1.after hq
    | next => exact False.elim hq
    | brk => exact False.elim hq
    | cont => exact False.elim hq
end
end Mp

set_option maxRecDepth 100000
set_option maxHeartbeats 4000000
/-! Mp13: the script's cells, the rounds, the law. -/
namespace Mp
open PySem PySem.Spec PyProof.Rows L2
/-! ### `_law_cell` -/
def nmE (x : Str) : Expr → Bool
  | .Name y _ => decide (y = x)
  | _ => false
def inE (i : Int) : Expr → Bool
  | .Constant (.int j) _ _ => decide (j = i)
  | _ => false
def lenE : Expr → Bool
  | .Call (.Name l _) [s] [] _ => decide (l = ("len" : Str)) && nmE "script" s
  | _ => false
def ckCell : List Stmt → Bool
  | [.If (.Compare s [.Eq] [.List [] _] _) [.Return (some (.BinOp k .Mult n _)) _] [] _, .Return (some (.BinOp (.Subscript s2 (.BinOp k2 .Mod l2 _) _) .Add (.BinOp (.BinOp k3 .FloorDiv l3 _) .Mult n3 _) _)) _] =>
    nmE "script" s && nmE "k" k && inE 7919 n && nmE "script" s2 && nmE "k" k2 && lenE l2 && nmE "k" k3 && lenE l3 && inE 104729 n3
  | _ => false
theorem pe_nmE {X : Cx} {x : Str} {i : Nat} {e : Expr} (h : nmE x e = true) (hN : X.N[i]? = some x) (hv : Vis X.env.scope x) (hd : (x == ("__debug__" : Str)) = false) (hcd : (x == ("__classdict__" : Str)) = false) : PE X e (tVar i) := by
  unfold nmE at h
  split at h
  · have e := of_decide_eq_true h
    subst e
    exact pe_var hN hv hd hcd
  · cases h
theorem nmE_star {x : Str} {e : Expr} (h : nmE x e = true) : notStar e = true := by
  unfold nmE at h
  split at h
  · rfl
  · cases h
theorem pe_inE {X : Cx} {i : Int} {e : Expr} (h : inE i e = true) : PE X e (tC (.int i)) := by
  unfold inE at h
  split at h
  · have e := of_decide_eq_true h
    subst e
    exact pe_int
  · cases h
theorem inE_star {i : Int} {e : Expr} (h : inE i e = true) : notStar e = true := by
  unfold inE at h
  split at h
  · rfl
  · cases h
def rLenS (K : PySem.W.Frag) : List V → Hp → VK → Prop := fun xs H Q => ∃ x n, xs = [x] ∧ LenV K x H n ∧ Q (.int n) H
theorem pe_lenE {X : Cx} {i : Nat} {e : Expr} (h : lenE e = true) (hN : X.N[i]? = some ("script" : Str)) (hv : Vis X.env.scope "script") (hg : Gl X "len") (hm : X.mg "len" = none) : PE X e (tCB (rLenS X.K) (tCons (tVar i) tNil)) := by
  unfold lenE at h
  split at h
  · rename_i l p1 s p2
    simp only [Bool.and_eq_true, decide_eq_true_eq] at h
    obtain ⟨rfl, h⟩ := h
    exact pe_callB call_len hg hm (by decide +kernel) (pa_cons (pe_nmE h hN hv (by decide) (by decide)) pa_nil (star_cons (nmE_star h))) (by decide) (by decide) (star_cons (nmE_star h))
  · cases h
theorem lenE_star {e : Expr} (h : lenE e = true) : notStar e = true := by
  unfold lenE at h
  split at h
  · rfl
  · cases h
/-- the cell's number -/
def spCellL (K : PySem.W.Frag) : Sp := fun vs H Q _ => ∃ (a : Addr) (ns : List Int) (j : Nat), vs = [.ref a, .int j] ∧ SqL K H a (ns.map V.int) ∧ ns.length ≤ 63 ∧ (j < ns.length ∨ (ns = [] ∧ j = 0)) ∧ ∀ H', Ext H H' → Q (.int ((ns[j]?).getD 0)) H'
theorem dpInts {K : PySem.W.Frag} {H : Hp} : ∀ ns : List Int, DpAll K H (ns.map V.int) (ns.map PyData.int)
  | [] => .nil
  | n :: ns => .cons (.int n) (dpInts ns)
theorem layInts : ∀ ns : List Int, PyData.canLayAll0 (ns.map PyData.int) = true ∧ PyData.depthAll (ns.map PyData.int) = 0
  | [] => ⟨rfl, rfl⟩
  | n :: ns => by
    have ih := layInts ns
    refine ⟨?_, ?_⟩
    · show (PyData.canLay0 (.int n) && PyData.canLayAll0 (ns.map PyData.int)) = true
      rw [ih.1]
      rfl
    · show max (PyData.depth (.int n)) (PyData.depthAll (ns.map PyData.int)) = 0
      rw [ih.2]
      rfl
theorem shInts (ns : List Int) : SeqAt.shaped (.list (ns.map PyData.int)) = true := by
  have h := layInts ns
  have e1 : PyData.canLay0 (.list (ns.map PyData.int)) = true := h.1
  have e2 : PyData.depth (.list (ns.map PyData.int)) = 1 := by
    show PyData.depthAll (ns.map PyData.int) + 1 = 1
    rw [h.2]
  unfold SeqAt.shaped
  rw [e1, e2]
  decide
theorem sql_ext {K : PySem.W.Frag} {H H' : Hp} {a : Addr} {xs : List V} (h : SqL K H a xs) (x : Ext H H') : SqL K H' a xs := by
  rcases h with (h | ⟨o, h⟩) | h
  · exact .inl (.inl (x _ _ h))
  · exact .inl (.inr ⟨o, x _ _ h⟩)
  · exact .inr h
structure CellDef (K : PySem.W.Frag) (mg : Str → Option Value) (f : Addr) (fd : FuncData) : Prop where
  ex : ∃ (params : Arguments) (body : List Stmt) (scope : Scope), mg "_law_cell" = some (.ref f) ∧ FunD K "_law_cell" "_law_cell" params body scope [] [] f fd ∧ FnScope [("script" : Str), ("k" : Str)] [("script" : Str), ("k" : Str)] scope ∧ Binds K fd [("script" : Str), ("k" : Str)] [] ∧
    ckCell body = true ∧ globs scope [("len" : Str)] = true
  len : mg "len" = none
  kp : PySem.W.keepIn K (.ref f) = true
section
variable {P : Program} {w : World} {K : PySem.W.Frag} {mg : Str → Option Value} {base : Heap} {f : Addr} {fd : FuncData}
theorem cell_ok (h : CellDef K mg f fd) : FnOk P w K mg base C8.CX0 1 f fd [("script" : Str), ("k" : Str)] (spCellL K) := by
  obtain ⟨params, body, scope, hm, F, S, hb, hck, hgl⟩ := h.ex
  refine FunD.ok F S (fun vs H Q E ⟨a, ns, j, e, _⟩ => by rw [e]; rfl) fun cdv A outer s H vs Q E hr ⟨a, ns, j, e, hs, hl, hj, hq⟩ => ?_
  subst e
  have gs : Gl (cxOf C8.CX0 P w K mg base [("script" : Str), ("k" : Str)] "_law_cell" scope f cdv A outer s H E) "len" := (of_decide_eq_true (List.all_eq_true.mp hgl ("len" : Str) (by simp)) : scope.names.lookup ("len" : Str) = some .globalImplicit)
  have v0 : Vis scope "script" := (S.par _ (by simp)).elim .inl fun z => .inr (.inl z)
  have v1 : Vis scope "k" := (S.par _ (by simp)).elim .inl fun z => .inr (.inl z)
  unfold ckCell at hck
  split at hck
  · rename_i s0 p1 p2 k0 n0 p3 p4 p5 s2 k2 l2 p6 p7 k3 l3 p8 n3 p9 p10 p11
    simp only [Bool.and_eq_true] at hck
    obtain ⟨⟨⟨⟨⟨⟨⟨⟨h1, h2⟩, h3⟩, h4⟩, h5⟩, h6⟩, h7⟩, h8⟩, h9⟩ := hck
    refine ⟨_, pss_cons (ps_if (pt_cmpR (op_eqD (X := cxOf C8.CX0 P w K mg base [("script" : Str), ("k" : Str)] "_law_cell" scope f cdv A outer s H E) hr.units) (pe_nmE (i := 0) h1 rfl v0 (by decide) (by decide)) (pe_lst pa_nil) rfl)
      (pss_one (ps_ret (pe_op op_mul (pe_nmE (i := 1) h2 rfl v1 (by decide) (by decide)) (pe_inE h3)))) pss_nil)
      (pss_one (ps_ret (pe_op op_add (pe_ix ix_seq (pe_nmE (i := 0) h4 rfl v0 (by decide) (by decide)) (pe_op op_mod (pe_nmE (i := 1) h5 rfl v1 (by decide) (by decide)) (pe_lenE (i := 0) h6 rfl v0 gs h.len)) (fun _ _ => rfl))
        (pe_op op_mul (pe_op op_fdiv (pe_nmE (i := 1) h7 rfl v1 (by decide) (by decide)) (pe_lenE (i := 0) h8 rfl v0 gs h.len)) (pe_inE h9))))), ?_⟩
    refine ⟨_, rfl, line6 (by simp), fun p hp => ?_⟩
    have x1 : Ext H (upd H p (.lst [])) := (Ext.refl H).new hp
    have hs1 := sql_ext hs x1
    refine ⟨.list (ns.map PyData.int), .list [], .lst hs1 (dpInts ns), .lst (SqL.of upd_same) .nil, shInts ns, rfl, _, rfl, ?_⟩
    cases ns with
    | nil =>
      have ej : j = 0 := by
        rcases hj with z | z
        · simp at z
        · exact z.2
      subst ej
      have e : PyData.eqv (.list (([] : List Int).map PyData.int)) (.list []) = true := by decide
      rw [if_pos e]
      refine ⟨_, rfl, ((0 : Nat) : Int), 7919, rfl, rfl, .inl ⟨by decide, by decide⟩, ?_⟩
      exact hq _ x1
    | cons n ns =>
      have e : ¬ (PyData.eqv (.list ((n :: ns).map PyData.int)) (.list [])) = true := fun z => Bool.noConfusion z
      rw [if_neg e]
      have hj : j < (n :: ns).length := by
        rcases hj with z | z
        · exact z
        · exact absurd z.1 (by simp)
      have hl0 : LenV K (.ref a) (upd H p (.lst [])) (((n :: ns).map V.int).length) := .inl ⟨_, hs1, rfl⟩
      have e1 : ((j : Nat) : Int) % (((((n :: ns).map V.int).length : Nat)) : Int) = ((j : Nat) : Int) := Int.emod_eq_of_lt (by omega) (by rw [List.length_map]; omega)
      have e2 : ((j : Nat) : Int) / (((((n :: ns).map V.int).length : Nat)) : Int) = 0 := Int.ediv_eq_zero_of_lt (by omega) (by rw [List.length_map]; omega)
      refine ⟨_, rfl, _, rfl, _, rfl, _, _, rfl, hl0, _, _, rfl, rfl, (by rw [List.length_map]; simp only [List.length_cons]; omega), ?_⟩
      show rIx K (V.ref a) (V.int (((j : Nat) : Int) % (((((n :: ns).map V.int).length : Nat)) : Int))) _ _
      rw [e1]
      refine .inl ⟨a, _, _, .int (((n :: ns)[j]?).getD 0), rfl, rfl, hs1, ?_, ?_⟩
      · refine atI_nat ?_
        rw [List.getElem?_map, List.getElem?_eq_getElem hj]
        rfl
      · refine ⟨_, rfl, _, rfl, _, _, rfl, hl0, _, _, rfl, rfl, ⟨(by rw [List.length_map]; simp only [List.length_cons]; omega), (by rw [List.length_map]; omega)⟩, ?_⟩
        simp only [e2]
        refine ⟨_, _, rfl, rfl, .inl ⟨by decide, by decide⟩, _, _, rfl, rfl, ?_⟩
        have e3 : ((n :: ns)[j]?).getD 0 + 0 * 104729 = ((n :: ns)[j]?).getD 0 := by omega
        show Q (V.int (((n :: ns)[j]?).getD 0 + 0 * 104729)) _
        rw [e3]
        exact hq _ x1
  · cases hck
/-! ### `_law_rounds` -/
def visB (s : Scope) (x : Str) : Bool := decide (s.names.lookup x = some .local) || decide (s.names.lookup x = some .cell) || decide (s.names.lookup x = some .free)
theorem vis_by {s : Scope} {x : Str} (h : visB s x = true) : Vis s x := by
  unfold visB at h
  simp only [Bool.or_eq_true, decide_eq_true_eq] at h
  rcases h with (z | z) | z
  · exact .inl z
  · exact .inr (.inl z)
  · exact .inr (.inr z)
def ckRounds (sc : Scope) : List Stmt → Bool
  | [.Return (some (.ListComp (.List [.Call (.Name c _) [s1, k1] [] _, z] _) [⟨.Name k _, .Call (.Name r _) [.Call (.Name mx _) [o, .Call (.Name mn _) [m, l] [] _] [] _] [] _, [], 0⟩] scope _)) _] =>
    decide (c = ("_law_cell" : Str)) && nmE "script" s1 && nmE "k" k1 && inE 0 z && decide (k = ("k" : Str)) && decide (r = ("range" : Str)) && decide (mx = ("max" : Str)) && inE 1 o && decide (mn = ("min" : Str)) && nmE "most" m && lenE l &&
    blkC [("script" : Str), ("most" : Str), ("k" : Str)] sc scope [(("k" : Str), 2)] && decide ((relS scope sc).names.lookup ("k" : Str) = some .local) && visB (relS scope sc) "script" && decide ((relS scope sc).names.lookup ("_law_cell" : Str) = some .globalImplicit)
  | _ => false
def spRounds (K : PySem.W.Frag) : Sp := fun vs H Q _ => ∃ (a : Addr) (ns : List Int) (m : Int), vs = [.ref a, .int m] ∧ SqL K H a (ns.map V.int) ∧ ns.length ≤ 63 ∧ ∀ (H' : Hp) (L : Addr) (ds : List Addr), Ext H H' → H' L = some (.lst (ds.map V.ref)) → ds.Nodup → L ∉ ds →
  (∀ d ∈ ds, ∃ c, (c = 0 ∨ c ∈ ns) ∧ H' d = some (.lst [.int c, .int 0])) → Q (.ref L) H'
structure RoundsDef (K : PySem.W.Frag) (mg : Str → Option Value) (f : Addr) (fd : FuncData) : Prop where
  ex : ∃ (params : Arguments) (body : List Stmt) (scope : Scope), mg "_law_rounds" = some (.ref f) ∧ FunD K "_law_rounds" "_law_rounds" params body scope [] [] f fd ∧ FnScope [("script" : Str), ("most" : Str), ("k" : Str)] [("script" : Str), ("most" : Str)] scope ∧ Binds K fd [("script" : Str), ("most" : Str)] [] ∧
    ckRounds scope body = true ∧ globs scope [("len" : Str), ("range" : Str), ("max" : Str), ("min" : Str)] = true
  blt : ∀ x ∈ [("len" : Str), ("range" : Str), ("max" : Str), ("min" : Str)], mg x = none
  kp : PySem.W.keepIn K (.ref f) = true
def rMax2 : List V → Hp → VK → Prop := fun xs H Q => ∃ i j, xs = [.int i, .int j] ∧ Q (.int (if j > i then j else i)) H
def rMin2 : List V → Hp → VK → Prop := fun xs H Q => ∃ i j, xs = [.int i, .int j] ∧ Q (.int (if j < i then j else i)) H
theorem rounds_ok {fc : Addr} {fdc : FuncData} (hc : CellDef K mg fc fdc) (h : RoundsDef K mg f fd) : FnOk P w K mg base C8.CX0 2 f fd [("script" : Str), ("most" : Str)] (spRounds K) := by
  obtain ⟨params, body, scope, hm, F, S, hb, hck, hgl⟩ := h.ex
  refine FunD.ok F S (fun vs H Q E ⟨a, ns, j, e, _⟩ => by rw [e]; rfl) fun cdv A outer s H vs Q E hr ⟨a, ns, m, e, hs, hl, hq⟩ => ?_
  subst e
  generalize hX : cxOf C8.CX0 P w K mg base [("script" : Str), ("most" : Str), ("k" : Str)] "_law_rounds" scope f cdv A outer s H E = X
  have hXN : X.N = [("script" : Str), ("most" : Str), ("k" : Str)] := by rw [← hX]; rfl
  have hXs : X.env.scope = scope := by rw [← hX]; rfl
  have hXmg : X.mg = mg := by rw [← hX]; rfl
  have hXK : X.K = K := by rw [← hX]; rfl
  have hXc : X.calm = true := by rw [← hX]; rfl
  have hXr : Room 1 X.A := by rw [← hX]; exact hr
  have hXF : FnOk X.prog X.w X.K X.mg X.base C8.CX0 1 fc fdc [("script" : Str), ("k" : Str)] (spCellL X.K) := by rw [← hX]; exact cell_ok hc
  obtain ⟨paramsC, bodyC, scopeC, hmC, FC, SC, hbC, _⟩ := hc.ex
  have gs : ∀ x ∈ [("len" : Str), ("range" : Str), ("max" : Str), ("min" : Str)], Gl X x := fun x hx => by
    show X.env.scope.names.lookup x = _
    rw [hXs]
    exact of_decide_eq_true (List.all_eq_true.mp hgl x hx)
  have mn : ∀ x ∈ [("len" : Str), ("range" : Str), ("max" : Str), ("min" : Str)], X.mg x = none := fun x hx => by rw [hXmg]; exact h.blt x hx
  have v0 : Vis X.env.scope "script" := by rw [hXs]; exact (S.par _ (by simp)).elim .inl fun z => .inr (.inl z)
  have v1 : Vis X.env.scope "most" := by rw [hXs]; exact (S.par _ (by simp)).elim .inl fun z => .inr (.inl z)
  have nd : X.N.Nodup := by rw [hXN]; exact S.nd
  unfold ckRounds at hck
  split at hck
  · rename_i c p1 s1 k1 p2 z p3 k p4 r p5 mx p6 o mi p7 mo l p8 p9 p10 sc2 p11 p12
    simp only [Bool.and_eq_true, decide_eq_true_eq] at hck
    obtain ⟨⟨⟨⟨⟨⟨⟨⟨⟨⟨⟨⟨⟨⟨rfl, h2⟩, h3⟩, h4⟩, rfl⟩, rfl⟩, rfl⟩, h8⟩, rfl⟩, h10⟩, h11⟩, h12⟩, h13⟩, h14⟩, h15⟩ := hck
    have okB : BlkOk X.N X.env.scope sc2 [(("k" : Str), 2)] := blkOk_by (by rw [hXN, hXs]; exact h12)
    have scE : ∀ (s : Shared) (H : Hp) (C : Addr) (cl : List (Str × Addr)) (fp : List Addr), (X.blk s H sc2 (compEnvC sc2 cl C X.env) fp).env.scope = relS sc2 scope := fun s H C cl fp => by
      show relS sc2 X.env.scope = _
      rw [hXs]
    have hk : ∀ (s : Shared) (H : Hp) (C : Addr) (cl : List (Str × Addr)) (fp : List Addr), (X.blk s H sc2 (compEnvC sc2 cl C X.env) fp).env.scope.names.lookup ("k" : Str) = some .local := fun s H C cl fp => by rw [scE]; exact h13
    have pmin : PE X (.Call (.Name ("min" : Str) p7) [mo, l] [] p8) (tCB rMin2 (tCons (tVar 1) (tCons (tCB (rLenS X.K) (tCons (tVar 0) tNil)) tNil))) :=
      pe_callB (call_min2 hXc) (gs _ (by simp)) (mn _ (by simp)) (by decide +kernel) (pa_cons (pe_nmE h10 (by rw [hXN]; rfl) v1 (by decide) (by decide)) (pa_cons (pe_lenE h11 (by rw [hXN]; rfl) v0 (gs _ (by simp)) (mn _ (by simp))) pa_nil (star_cons (lenE_star h11))) (star_cons (nmE_star h10))) (by decide) (by decide) (star_cons (nmE_star h10)) (star_none (by rw [List.all_cons, lenE_star h11]; rfl))
    have pmax : PE X (.Call (.Name ("max" : Str) p6) [o, .Call (.Name ("min" : Str) p7) [mo, l] [] p8] [] p9) (tCB rMax2 (tCons (tC (.int 1)) (tCons (tCB rMin2 (tCons (tVar 1) (tCons (tCB (rLenS X.K) (tCons (tVar 0) tNil)) tNil))) tNil))) :=
      pe_callB (call_max2 hXc) (gs _ (by simp)) (mn _ (by simp)) (by decide +kernel) (pa_cons (pe_inE h8) (pa_cons pmin pa_nil) (star_cons (inE_star h8))) (by decide) (by decide) (star_cons (inE_star h8)) (star_none rfl)
    have elt : ∀ (s : Shared) (H : Hp) (C : Addr) (cl : List (Str × Addr)) (fp : List Addr), PE (X.blk s H sc2 (compEnvC sc2 cl C X.env) fp) (.List [.Call (.Name ("_law_cell" : Str) p1) [s1, k1] [] p2, z] p3) (tLst (tCons (tCallS (spCellL X.K) (fun _ => C8.E0) (tCons (tVar 0) (tCons (tVar 2) tNil))) (tCons (tC (.int 0)) tNil))) := fun s H C cl fp => by
      refine pe_lst (pa_cons (pe_callS (X := X.blk s H sc2 (compEnvC sc2 cl C X.env) fp) hXF hXr ?_ (by show X.mg _ = _; rw [hXmg]; exact hmC) (by show PySem.W.keepIn X.K _ = _; rw [hXK]; exact hc.kp) (by show Binds X.K _ _ _; rw [hXK]; exact hbC) (fun _ _ _ _ _ _ _ q => q.elim)
        (pa_cons (pe_nmE h2 (by show X.N[0]? = _; rw [hXN]; rfl) (by rw [scE]; exact vis_by h14) (by decide) (by decide)) (pa_cons (pe_nmE h3 (by show X.N[2]? = _; rw [hXN]; rfl) (.inl (hk s H C cl fp)) (by decide) (by decide)) pa_nil (star_cons (nmE_star h3))) (star_cons (nmE_star h2))) (by decide) (star_cons (nmE_star h2)) (star_none (by rw [List.all_cons, nmE_star h3]; rfl)))
        (pa_cons (pe_inE h4) pa_nil (star_cons (inE_star h4))))
      show (X.blk s H sc2 (compEnvC sc2 cl C X.env) fp).env.scope.names.lookup _ = _
      rw [scE]
      exact h15
    have lc := pe_lc (X := X) (own := [(("k" : Str), 2)]) (g := gName 2) (tt := tYes) (pos := p11) hXc nd (pi_range1 (p := p5) (pos := p10) (tg := .Name ("k" : Str) p4) (gs _ (by simp)) (mn _ (by simp)) (pa_cons pmax pa_nil)) okB
      (fun s H C cl fp => pg_name (i := 2) nd (by show X.N[2]? = _; rw [hXN]; rfl) (.inl (hk s H C cl fp)) (.inr (hk s H C cl fp))) (fun s H C cl fp => pts_nil) elt
    refine ⟨_, pss_one (ps_ret (pos := p12) lc), ?_⟩
    rw [hXK]
    refine ⟨_, rfl, ⟨_, rfl, _, _, rfl, .inl ⟨_, hs, rfl⟩, _, _, rfl, _, _, rfl, ?_⟩⟩
    have hlen : ((ns.map V.int).length : Int) = ns.length := by rw [List.length_map]
    have hv : ∀ v : Int, v = (if (if ((ns.map V.int).length : Int) < m then ((ns.map V.int).length : Int) else m) > 1 then (if ((ns.map V.int).length : Int) < m then ((ns.map V.int).length : Int) else m) else 1) → 1 ≤ v ∧ (v ≤ 1 ∨ v ≤ ns.length) := fun v e => by
      rw [hlen] at e
      split at e
      · split at e <;> rename_i q1 q2 <;> omega
      · omega
    refine ⟨_, rfl, ?_, ?_, fun Dd hD => ?_⟩
    · have := hv _ rfl
      omega
    · have := hv _ rfl
      omega
    · have hv := hv _ rfl
      generalize (if (if ((ns.map V.int).length : Int) < m then ((ns.map V.int).length : Int) else m) > 1 then (if ((ns.map V.int).length : Int) < m then ((ns.map V.int).length : Int) else m) else 1) = v at hv ⊢
      refine lc_range (fun i H' => ∃ ds : List Addr, ds.length = i ∧ H' Dd = some (.lst (ds.map V.ref)) ∧ Ext H H' ∧ ds.Nodup ∧ Dd ∉ ds ∧ ∀ d ∈ ds, H' d ≠ none ∧ ∃ c, (c = 0 ∨ c ∈ ns) ∧ H' d = some (.lst [.int c, .int 0])) ⟨[], rfl, upd_same, (Ext.refl H).new hD, List.nodup_nil, by simp, by simp⟩ (fun i H' hi ⟨ds, hlen, hDd, hx, hnd, hno, hds⟩ => ?_) fun H' ⟨ds, hlen, hDd, hx, hnd, hno, hds⟩ => hq H' Dd ds hx hDd hnd hno fun d hd => (hds d hd).2
      refine ⟨rfl, ?_⟩
      unfold tYes
      dsimp only
      rw [if_pos rfl]
      have hj : i < ns.length ∨ (ns = [] ∧ i = 0) := by
        by_cases hn : ns = []
        · refine .inr ⟨hn, ?_⟩
          rw [hn] at hv
          simp at hv
          omega
        · have : 0 < ns.length := by
            cases ns with
            | nil => exact absurd rfl hn
            | cons _ _ => simp
          exact .inl (by omega)
      refine ⟨_, rfl, _, rfl, a, ns, i, by rw [Int.zero_add], sql_ext hs hx, hl, hj, fun H2 hx2 => ?_⟩
      refine ⟨line6 (by simp), fun q hq2 => ?_⟩
      have eD : H2 Dd = some (.lst (ds.map V.ref)) := hx2 _ _ hDd
      have nqD : Dd ≠ q := fun e => by rw [← e, eD] at hq2; cases hq2
      refine ⟨ds.map V.ref, by rw [upd_ne nqD]; exact eD, line6' (by rw [List.length_map]; omega), ds ++ [q], by rw [List.length_append, hlen]; rfl, ?_, ?_, ?_, ?_, ?_⟩
      · rw [upd_same, List.map_append]
        rfl
      · intro b o e
        have e1 := hx2 b o (hx b o e)
        have nb : b ≠ Dd := fun z => by rw [z, hD] at e; cases e
        have nq : b ≠ q := fun z => by rw [← z, e1] at hq2; cases hq2
        rw [upd_ne nb, upd_ne nq]
        exact e1
      · rw [List.nodup_append]
        refine ⟨hnd, by simp, fun x hx b hb => ?_⟩
        have e : b = q := by simpa using hb
        rw [e]
        intro z
        obtain ⟨n1, c, _, e1⟩ := hds x hx
        have := hx2 _ _ e1
        rw [z, hq2] at this
        cases this
      · intro z
        rcases List.mem_append.mp z with z | z
        · exact hno z
        · exact nqD (by simpa using z)
      · intro d hd
        rcases List.mem_append.mp hd with z | z
        · obtain ⟨n1, c, h1, e1⟩ := hds d z
          have e2 := hx2 _ _ e1
          have nq : d ≠ q := fun z => by rw [← z, e2] at hq2; cases hq2
          have nD : d ≠ Dd := fun y => hno (y ▸ z)
          have e3 : (upd (upd H2 q (.lst [.int ((ns[i]?).getD 0), .int 0])) Dd (.lst (ds.map V.ref ++ [.ref q]))) d = some (.lst [.int c, .int 0]) := by rw [upd_ne nD, upd_ne nq]; exact e2
          exact ⟨fun y => (by rw [y] at e3; cases e3), c, h1, e3⟩
        · have e : d = q := by simpa using z
          rw [e]
          have e3 : (upd (upd H2 q (.lst [.int ((ns[i]?).getD 0), .int 0])) Dd (.lst (ds.map V.ref ++ [.ref q]))) q = some (.lst [.int ((ns[i]?).getD 0), .int 0]) := by rw [upd_ne (Ne.symm nqD), upd_same]
          refine ⟨fun y => (by rw [y] at e3; cases e3), _, ?_, e3⟩
          rcases hj with hj | hj
          · rw [List.getElem?_eq_getElem hj]
            exact .inr (List.getElem_mem hj)
          · rw [hj.1, hj.2]
            exact .inl rfl
  · cases hck
/-! ### the law -/
theorem pi_lstV {X : Cx} {tg l : Expr} {ta : TE} (ha : PE X l ta) : PI X tg l (fun σ H R => ta σ H fun x H1 => ∃ p xs, x = .ref p ∧ SqL X.K H1 p xs ∧ R (Itl X.K p) H1) := by
  refine ⟨fun pins s σ H R I h => ?_⟩
  refine thn (ha.run pins s σ H _ I h) fun v s1 ⟨x, H1, I1, r1, p, xs, e, hq, q⟩ => ?_
  subst e
  cases r1
  obtain ⟨its, rv, pl, hz⟩ := I1.list hq
  refine wpAny_pyIter_list pl.isList ?_
  refine ⟨s1.heap.objs.size, [s1.heap.objs.size], _, _, H1, rfl, I1.kept (t' := s1.toks) fun b o e => Heap.get?_push_of_some _ e, turn_list p _, ⟨_, Heap.get?_push_size _ rfl, rfl, rfl⟩, fun b hb => ?_, q⟩
  have e : b = s1.heap.objs.size := by simpa using hb
  subst e
  exact I1.fpOk (Nat.le_refl _) (I1.hok.fresh (Nat.le_refl _))
/-- a suite may use that the slots are as many as the names -/
theorem PSs.lens {X : Cx} {b : List Stmt} {t : TS} (h : PSs X b t) : PSs X b (fun D σ H => σ.length = X.N.length → t D σ H) :=
  ⟨fun pins s σ H D I q => h.run pins s σ H D I (q I.len)⟩
def ckLaw (nm : Nm) (N : List Str) (sc : Scope) (i : Nat) (m : Int) (told : Bool) (lb : List MS) : List Stmt → Bool
  | [.For (.Name d _) (.Call (.Name r _) [s, k] [] _) b [] _, .Return (some (.Constant (.bool true) _ _)) _] =>
    decide (r = ("_law_rounds" : Str)) && nmE "script" s && inE m k && decide (N[i]? = some d) && (decide (sc.names.lookup d = some .local) || decide (sc.names.lookup d = some .cell)) && ckSs nm N (sc, told) lb b
  | _ => false
/-- the slots as a round finds them -/
def en0 (N : List Str) (i : Nat) : En := (List.replicate N.length none).set i (some (.c 0))
structure LawDef (K : PySem.W.Frag) (mg : Str → Option Value) (nm : Nm) (N : List Str) (i : Nat) (m : Int) (told : Bool) (lb : List MS) (f : Addr) (fd : FuncData) (cd : Addr) : Prop where
  ex : ∃ (params : Arguments) (body : List Stmt) (scope : Scope), FunD K "law" "law" params body scope [] [] f fd ∧ FnScope N [("script" : Str)] scope ∧ ckLaw nm N scope i m told lb body = true ∧ globs scope [("_law_rounds" : Str)] = true ∧ fd.code = .ref cd
def spLaw (K : PySem.W.Frag) (T : List (Addr × Str)) : Sp := fun vs H Q _ => ∃ (a : Addr) (ns : List Int), vs = [.ref a] ∧ SqL K H a (ns.map V.int) ∧ ns.length ≤ 63 ∧ (∀ z ∈ ns, Builtin.Int.intBits z ≤ 1048576) ∧ LamX.Tabs T H ∧ ∀ H', Q (.bl true) H'
/-- what is known of told, if it is used -/
def ToldOk (K : PySem.W.Frag) (mg : Str → Option Value) (base : Heap) (T : List (Addr × Str)) (Ce : Nat → Addr) (G : Nat → Option D) (cd : Addr) : Prop :=
  TermOk K mg ∧ ErrOk K mg Ce ∧ ToldDef K mg ∧ NamesG G ∧ ∃ P0, LamX.TabB base mg cd P0 ∧ T = [(P0, (("law" : Str) ++ ".<locals>.") ++ "<lambda>")]
theorem law_ok {T : List (Addr × Str)} {Ce : Nat → Addr} {G : Nat → Option D} {nm : Nm} {tb : Tb} {N : List Str} {i n : Nat} {m : Int} {told : Bool} {lb : List MS} {fc fr cd : Addr} {fdc fdr : FuncData}
    (pk : PrOk P w K mg base T Ce G nm tb) (hc : CellDef K mg fc fdc) (hR : RoundsDef K mg fr fdr) (hL : LawDef K mg nm N i m told lb f fd cd) (ht : told = true → ToldOk K mg base T Ce G cd)
    (hrun : ∀ c : Int, Builtin.Int.intBits c ≤ 1048576 → ∃ en μ, exs G (callN G tb n) lb (en0 N i) [.lst [.int c, .int 0]] = some (.next en μ)) : FnOk P w K mg base (L2N.CX P w) (n + 3) f fd [("script" : Str)] (spLaw K T) := by
  obtain ⟨params, body, scope, F, S, hck, hgl, hcd⟩ := hL.ex
  obtain ⟨oc, od, dV, kV, doc, pm, an, cdv, ct, osl, efd, lk, hcdI, _, _⟩ := F.ex
  have ecd : cdv = .ref cd := by rw [efd] at hcd; exact hcd
  subst ecd
  rw [efd] at lk ⊢
  refine fn_of lk hcdI S (fun vs H Q E ⟨a, ns, e, _⟩ => by rw [e]; rfl) fun A outer s H vs Q E hr ⟨a, ns, e, hs, hl, hbits, hT, hq⟩ => ?_
  subst e
  have md := all_ok pk n
  generalize hX : cxOf (L2N.CX P w) P w K mg base N "law" scope f (.ref cd) A outer s H E = X
  have hXN : X.N = N := by rw [← hX]; rfl
  have hXs : X.env.scope = scope := by rw [← hX]; rfl
  have hXmg : X.mg = mg := by rw [← hX]; rfl
  have hXK : X.K = K := by rw [← hX]; rfl
  have hXc : X.calm = true := by rw [← hX]; rfl
  have hXr : Room (n + 2) X.A := by rw [← hX]; exact hr
  have hXR : FnOk X.prog X.w X.K X.mg X.base C8.CX0 2 fr fdr [("script" : Str), ("most" : Str)] (spRounds X.K) := by rw [← hX]; exact rounds_ok hc hR
  have cok : Cok T Ce G (callN G tb n) nm N n X (scope, told) (fun c d _ H => E c d H) := by
    refine ⟨hXN, hXs, by rw [hXN]; exact S.nd, hXc, by rw [← hX]; exact L2N.takes_of rfl rfl rfl rfl, hXr.mono (by omega), by rw [← hX]; exact md, fun z => ?_⟩
    obtain ⟨TO, EO, TD, NG, P0, TB, eT⟩ := ht z
    refine told_rule (c := cd) (P := P0) (by rw [hXK, hXmg]; exact TO) (by rw [hXK, hXmg]; exact EO) (by rw [hXK, hXmg]; exact TD) NG (by rw [← hX]; exact TB) (by rw [← hX]; rfl) (by rw [eT, ← hX]; exact List.mem_cons_self) (fun p hp _ => ?_) hXr
    rw [eT] at hp
    rcases List.mem_cons.mp hp with e | e
    · rw [e, ← hX]
      rfl
    · cases e
  have scok : SCok T Ce G (callN G tb n) nm N n X (scope, told) (fun c d _ H => E c d H) := ⟨cok, fun x => by rw [← hX]; rfl, by rw [← hX]; exact passes_of rfl, S.kind, by rw [← hX]; exact pk.ex⟩
  obtain ⟨paramsR, bodyR, scopeR, hmR, FR, SR, hbR, _⟩ := hR.ex
  have v0 : Vis X.env.scope "script" := by rw [hXs]; exact (S.par _ (by simp)).elim .inl fun z => .inr (.inl z)
  have gR : Gl X "_law_rounds" := by
    show X.env.scope.names.lookup _ = _
    rw [hXs]
    exact of_decide_eq_true (List.all_eq_true.mp hgl ("_law_rounds" : Str) (by simp))
  have n0 : X.N[0]? = some ("script" : Str) := by
    rw [hXN]
    have e := S.pre
    cases N with
    | nil => cases e
    | cons x xs => cases e; rfl
  unfold ckLaw at hck
  split at hck
  · rename_i d p1 r p2 s1 k1 p3 b p4 p5 p6 p7
    simp only [Bool.and_eq_true, Bool.or_eq_true, decide_eq_true_eq] at hck
    obtain ⟨⟨⟨⟨⟨rfl, h2⟩, h3⟩, h4⟩, h5⟩, h6⟩ := hck
    have hb := PSs.lens (soundSs lb scok h6)
    have it := pi_lstV (tg := .Name d p1) (pe_callS (X := X) (p := p2) (pos := p3) (E := fun _ => C8.E0) hXR (hXr.mono (by omega)) gR (by rw [hXmg]; exact hmR) (by rw [hXK]; exact hR.kp) (by rw [hXK]; exact hbR) (fun _ _ _ _ _ _ _ q => q.elim)
      (pa_cons (pe_nmE h2 n0 v0 (by decide) (by decide)) (pa_cons (pe_inE h3) pa_nil (star_cons (inE_star h3))) (star_cons (nmE_star h2))) (by decide) (star_cons (nmE_star h2)) (star_none (by rw [List.all_cons, inE_star h3]; rfl)))
    have pg : PG X (.Name d p1) (gName i) := pg_name (by rw [hXN]; exact S.nd) (by rw [hXN]; exact h4) (by rw [hXs]; exact h5) (.inl (by rw [← hX]; rfl))
    refine ⟨_, pss_cons (ps_for (pos := p4) (by rw [← hX]; exact passes_of rfl) hXc it pg hb) (pss_one (ps_ret (pos := p7) pe_bl)), ?_⟩
    rw [hXK, hXN]
    refine ⟨_, ?_, a, ns, m, rfl, hs, hl, fun H' L ds hx hL0 hnd hno hds => ⟨L, _, rfl, SqL.of hL0, ?_⟩⟩
    · have e := S.pre
      cases N with
      | nil => cases e
      | cons x xs => rfl
    have tabs : LamX.Tabs T H' := hT.ext hx
    have hi : i < N.length := (List.getElem?_eq_some_iff.mp h4).1
    refine ⟨fun j k σ2 H2 => k = ds.length - j ∧ j ≤ ds.length ∧ LamX.Tabs T H2 ∧ H2 L = some (.lst (ds.map V.ref)) ∧ ∀ t d, j ≤ t → ds[t]? = some d → ∃ c, (c = 0 ∨ c ∈ ns) ∧ H2 d = some (.lst [.int c, .int 0]), ⟨ds.length, rfl, Nat.zero_le _, tabs, hL0, fun t d _ e => hds d (List.mem_of_getElem? e)⟩, ?_⟩
    rintro j k σ2 H2 ⟨rfl, hj, tb2, hL2, hd2⟩
    by_cases hlt : j < ds.length
    · refine .inr ⟨⟨_, .ref ds[j], SqL.of hL2, by rw [List.getElem?_map, List.getElem?_eq_getElem hlt]; rfl⟩, fun σ3 H3 => j + 1 ≤ ds.length ∧ LamX.Tabs T H3 ∧ H3 L = some (.lst (ds.map V.ref)) ∧ ∀ t d, j + 1 ≤ t → ds[t]? = some d → ∃ c, (c = 0 ∨ c ∈ ns) ∧ H3 d = some (.lst [.int c, .int 0]), fun σ3 H3 q => ⟨ds.length - (j + 1), by omega, rfl, q⟩, fun x H3 hy => ?_⟩
      obtain ⟨rfl, hy⟩ := hy
      have ex : x = .ref ds[j] := by
        have := hy _ (SqL.of hL2)
        rw [List.getElem?_map, List.getElem?_eq_getElem hlt] at this
        exact (Option.some.inj this).symm
      subst ex
      intro hlen
      obtain ⟨c, hcn, hdc⟩ := hd2 j ds[j] (Nat.le_refl _) (List.getElem?_eq_getElem hlt)
      have hcb : Builtin.Int.intBits c ≤ 1048576 := by
        rcases hcn with e | e
        · rw [e]; decide
        · exact hbits c e
      obtain ⟨en, μ, hrn⟩ := hrun c hcb
      have hlen2 : σ2.length = N.length := by simpa using hlen
      have one : ∀ k b, In ([], [some (ds[j], [])]) k b → k = 0 ∧ b = ds[j] := fun k b hb => by
        obtain ⟨a, own, e, z⟩ := hb
        have hk : k = 0 := by
          have := (List.getElem?_eq_some_iff.mp e).1
          simp at this
          omega
        subst hk
        cases e
        rcases z with z | z
        · exact ⟨rfl, z⟩
        · exact absurd z (by simp)
      refine ⟨en0 N i, [.lst [.int c, .int 0]], ([], [some (ds[j], [])]), ⟨?_, fun q y e => ?_⟩, ⟨rfl, fun i j b h1 h2 => by rw [(one i b h1).1, (one j b h2).1], fun q cl e => ?_, tb2, by simp, fun k b hb => by rw [(one k b hb).2]; exact notNil hdc (fun _ z => by cases z)⟩, ?_⟩
      · unfold en0
        simp [hlen2]
      · unfold en0 at e
        by_cases hqi : i = q
        · subst hqi
          rw [List.getElem?_set_self (by simpa using hi)] at e
          cases e
          exact ⟨.ref ds[j], by rw [List.getElem?_set_self (by rw [hlen2]; exact hi)], .inr ⟨ds[j], ⟨[], rfl⟩, rfl⟩⟩
        · rw [List.getElem?_set_ne hqi, List.getElem?_replicate] at e
          split at e <;> cases e
      · have hq0 : q = 0 := by
          have := (List.getElem?_eq_some_iff.mp e).1
          simp at this
          omega
        subst hq0
        cases e
        exact ⟨ds[j], _, rfl, hdc, .cons (.int _) (.cons (.int _) .nil)⟩
      · rw [hrn]
        intro θ' H4 σ3 st sr3 er3
        have keep : ∀ b o, H3 b = some o → (∀ ps, o ≠ .tbl ps) → b ≠ ds[j] → H4 b = some o := fun b o e n1 n2 => st.keep b o e n1 (fun k z => n2 (one k b z).2)
        refine ⟨hlt, sr3.tab, keep L _ hL2 (fun _ z => by cases z) (fun z => hno (z ▸ List.getElem_mem hlt)), fun t d' ht' e => ?_⟩
        obtain ⟨c', hc', e'⟩ := hd2 t d' (by omega) e
        refine ⟨c', hc', keep d' _ e' (fun _ z => by cases z) fun z => ?_⟩
        rw [z] at e
        obtain ⟨h1, e1⟩ := List.getElem?_eq_some_iff.mp e
        have := (List.getElem_inj hnd).mp e1
        omega
    · have ej : j = ds.length := by omega
      refine .inl ⟨⟨_, SqL.of hL2, by rw [List.length_map]; omega⟩, ?_⟩
      exact hq H2
  · cases hck
end
end Mp

set_option maxRecDepth 100000
set_option maxHeartbeats 4000000
/-! Mp14: a row's defs, all at once. -/
namespace Mp
open PySem PySem.Spec PyProof.Rows L2
theorem zip_look {ps : List Str} {us : List Value} (hl : us.length = ps.length) : ∀ n ∈ ps, ((ps.zip us).lookup n).isNone = false := by
  induction ps generalizing us with
  | nil => intro n hn; cases hn
  | cons p ps ih =>
    cases us with
    | nil => cases hl
    | cons u us =>
      intro n hn
      have hl : us.length = ps.length := by simpa using hl
      rw [List.zip_cons_cons, List.lookup_cons]
      cases q : n == p with
      | true => rfl
      | false =>
        rcases List.mem_cons.mp hn with e | e
        · rw [e] at q; simp at q
        · exact ih hl n e
theorem fm_congr {α β : Type} {f g : α → Option β} : ∀ {l : List α}, (∀ x ∈ l, f x = g x) → l.filterMap f = l.filterMap g
  | [], _ => rfl
  | x :: l, h => by
    rw [List.filterMap_cons, List.filterMap_cons, h x List.mem_cons_self, fm_congr fun y hy => h y (List.mem_cons_of_mem _ hy)]
theorem zip_all {ps : List Str} {us : List Value} (hnd : ps.Nodup) (hl : us.length = ps.length) : ps.filterMap (fun n => ((ps.zip us).lookup n).map (n, ·)) = ps.zip us := by
  induction ps generalizing us with
  | nil => rfl
  | cons p ps ih =>
    cases us with
    | nil => cases hl
    | cons u us =>
      have hl : us.length = ps.length := by simpa using hl
      have hp : p ∉ ps := (List.nodup_cons.mp hnd).1
      rw [List.zip_cons_cons, List.filterMap_cons]
      have e : ((p, u) :: ps.zip us).lookup p = some u := by rw [List.lookup_cons, beq_self_eq_true]
      rw [e]
      have e2 : ps.filterMap (fun n => (((p, u) :: ps.zip us).lookup n).map (n, ·)) = ps.filterMap (fun n => ((ps.zip us).lookup n).map (n, ·)) := by
        refine fm_congr fun n hn => ?_
        have : (n == p) = false := by
          cases q : n == p with
          | false => rfl
          | true => exact absurd (beq_iff_eq.mp q ▸ hn) hp
        rw [List.lookup_cons, this]
      show (p, u) :: _ = _
      rw [e2, ih (List.nodup_cons.mp hnd).2 hl]
theorem bind_plain {x q : Str} {as : List Arg} {body : List Stmt} {scope : Scope} {kV doc pm : Value} {an : Option Addr} {cdv ct : Value} {us : List Value} (hl : us.length = (as.map (·.arg)).length) (hnd : (as.map (·.arg)).Nodup) :
    bindArgs (PySem.W.fnOf x q ⟨[], as, none, [], [], none, []⟩ body scope .none kV doc pm an cdv ct) ⟨us, []⟩ = pure ((as.map (·.arg)).zip us) := by
  have e : ((as.map (·.arg)).filter fun n => (((as.map (·.arg)).zip us).lookup n).isNone) = [] := List.filter_eq_nil_iff.mpr fun n hn => by rw [zip_look hl n hn]; decide
  have hg : ¬ us.length > (as.map (·.arg)).length := by omega
  have e2 : (as.map (·.arg)).filterMap (fun n => (((as.map (·.arg)).zip us).lookup n).map (n, ·)) = (as.map (·.arg)).zip us := zip_all hnd hl
  have hg2 : (decide (us.length > (as.map (·.arg)).length) && (none : Option Arg).isNone) = false := by rw [decide_eq_false hg]; rfl
  unfold bindArgs
  have es : seqItems? Value.none = (pure none : Sem (Option (Array Value))) := rfl
  simp only [PySem.W.fnOf, es, Array.toList_empty, List.toList_toArray, List.take_length, e, e2, List.isEmpty_nil, Bool.not_true, List.zip_nil_right, List.map_nil, List.nil_append, List.append_nil, pure_bind, Option.getD_none, List.forIn_nil, hg2, Nat.sub_zero, Nat.sub_self, List.drop_nil, List.drop_zero, List.length_nil, Bool.false_eq_true, if_false, Nat.zero_sub]
/-! ### a def of the row -/
structure DR where
  id : Nat
  name : Str
  ps : List Str
  N : List Str
  i : Nat
def argsB (ps : List Str) : Arguments → Bool
  | ⟨[], as, none, [], [], none, []⟩ => decide (as.map (·.arg) = ps) && decide ps.Nodup
  | _ => false
def scopeB (N ps : List Str) (sc : Scope) : Bool :=
  decide (sc.kind = .function) && !sc.isCoroutine && !sc.isGenerator && decide N.Nodup && decide (N.take ps.length = ps) && (ps.all fun x => decide (sc.names.lookup x = some .local) || decide (sc.names.lookup x = some .cell)) && (sc.names.all fun y => !decide (y.2 = .free))
theorem scope_by {N ps : List Str} {sc : Scope} (h : scopeB N ps sc = true) : FnScope N ps sc := by
  unfold scopeB at h
  simp only [Bool.and_eq_true, Bool.or_eq_true, Bool.not_eq_true', decide_eq_true_eq, decide_eq_false_iff_not, List.all_eq_true] at h
  obtain ⟨⟨⟨⟨⟨⟨h1, h2⟩, h3⟩, h4⟩, h5⟩, h6⟩, h7⟩ := h
  exact ⟨h1, h2, h3, h4, h5, h6, h7⟩
theorem binds_by {K : PySem.W.Frag} {x q : Str} {params : Arguments} {body : List Stmt} {scope : Scope} {f : Addr} {fd : FuncData} {ps : List Str} (h : argsB ps params = true) (F : FunD K x q params body scope [] [] f fd) : Binds K fd ps [] := by
  unfold argsB at h
  split at h
  · simp only [Bool.and_eq_true, decide_eq_true_eq] at h
    obtain ⟨rfl, h2⟩ := h
    exact F.bindsN fun kV doc pm an cdv ct us hl => bind_plain hl h2
  · cases h
theorem bindsA_by {K : PySem.W.Frag} {x q : Str} {params : Arguments} {body : List Stmt} {scope : Scope} {f : Addr} {fd : FuncData} {ps : List Str} (h : argsB ps params = true) (F : FunD K x q params body scope [] [] f fd) (s : Shared) (us : List Value) (hl : us.length = ps.length) : BindsTo s fd ⟨us, []⟩ (ps.zip us) := by
  unfold argsB at h
  split at h
  · simp only [Bool.and_eq_true, decide_eq_true_eq] at h
    obtain ⟨rfl, h2⟩ := h
    exact F.bindsA (fun kV doc pm an cdv ct us hl => bind_plain hl h2) s us hl
  · cases h
def drOk (tb : Tb) (nm : Nm) (top : Nat → Stmt) (r : DR) : Bool :=
  argsB r.ps (defArgs (top r.i)) && scopeB r.N r.ps (defScope (top r.i)) && (match tb r.id with
    | some (.df g) => decide (g.ar = r.ps.length) && decide (g.sl = r.N.length) && ckSs nm r.N (defScope (top r.i), false) g.body (defBody (top r.i))
    | _ => false)
def dOf (top : Nat → Stmt) (x : Str) (i : Nat) : He.DefD := ⟨(x, none), x, x, defArgs (top i), defBody (top i), defScope (top i), [], []⟩
/-! ### data in the written part -/
def dataB (K : PySem.W.Frag) : Nat → Value → D → Bool
  | 0, _, _ => false
  | n + 1, u, d => match u, d with
    | .none, .none => true
    | .bool b, .bool c => decide (b = c)
    | .int i _, .int j => decide (i = j)
    | .str x _, .str y => decide (x = y)
    | .ref a, .tuple ds => (match K.lookup a with
      | some ⟨.type c, none, .seq its _, _⟩ => decide (c = "tuple") && decide (its.size ≤ 1000) && decide (its.size = ds.length) && ((its.toList.zip ds).all fun p => dataB K n p.1 p.2)
      | _ => false)
    | _, _ => false
theorem data_all {K : PySem.W.Frag} {n : Nat} (ih : ∀ (u : Value) (d : D), dataB K n u d = true → ∃ v, RelV v u ∧ ∀ H θ, VR K H θ d v) : ∀ (us : List Value) (ds : List D), us.length = ds.length → ((us.zip ds).all fun p => dataB K n p.1 p.2) = true → ∃ vs, Vals vs us ∧ ∀ H θ, VRs K H θ ds vs
  | [], [], _, _ => ⟨[], .nil, fun _ _ => .nil⟩
  | u :: us, d :: ds, hl, h => by
    rw [List.zip_cons_cons, List.all_cons, Bool.and_eq_true] at h
    obtain ⟨v, r, q⟩ := ih u d h.1
    obtain ⟨vs, rs, qs⟩ := data_all ih us ds (by simpa using hl) h.2
    exact ⟨v :: vs, .cons r rs, fun H θ => .cons (q H θ) (qs H θ)⟩
  | [], _ :: _, hl, _ => by cases hl
  | _ :: _, [], hl, _ => by cases hl
theorem data_ok {K : PySem.W.Frag} : ∀ (n : Nat) (u : Value) (d : D), dataB K n u d = true → ∃ v, RelV v u ∧ ∀ H θ, VR K H θ d v
  | 0, _, _, h => by cases h
  | n + 1, u, d, h => by
    unfold dataB at h
    split at h
    · exact ⟨.non, rfl, fun _ _ => .non⟩
    · have e := of_decide_eq_true h
      subst e
      exact ⟨.bl _, rfl, fun _ _ => .bl _⟩
    · have e := of_decide_eq_true h
      subst e
      exact ⟨.int _, ⟨_, rfl⟩, fun _ _ => .int _⟩
    · have e := of_decide_eq_true h
      subst e
      exact ⟨.str _, ⟨_, rfl⟩, fun _ _ => .str _⟩
    · rename_i a ds
      split at h
      · rename_i c its m sl hk
        simp only [Bool.and_eq_true, decide_eq_true_eq] at h
        obtain ⟨⟨⟨rfl, h1⟩, h2⟩, h3⟩ := h
        obtain ⟨vs, rs, qs⟩ := data_all (data_ok n) its.toList ds (by simpa using h2) h3
        exact ⟨.ref a, rfl, fun H θ => .tupK (.inr ⟨_, its, m, hk, rfl, rfl, line6 (by omega), rs⟩) (qs H θ)⟩
      · cases h
    · cases h
/-! ### the exceptions -/
def excN : List Str := gAll ++ [("BentError" : Str)]
def excCB (K : PySem.W.Frag) (D : Addr) : Bool :=
  He.eqO (PySem.W.findIn K (.ref D) "__getattribute__") (some (some (.builtin "BaseException.__getattribute__"))) && He.eqO (PySem.W.findIn K (.ref D) "__getattr__") (some none) && decide (PySem.W.subIn K (.ref D) (.type "BaseException") = some true) && PySem.W.hasDictIn K D &&
  He.eqO (PySem.W.findIn K (.ref D) "__class__") (some (some (.builtin "object.__class__"))) && He.eqO (PySem.W.specialIn K (.builtin "object.__class__") "__get__") (some (some (.builtin "getset_descriptor.__get__"))) && decide (PySem.W.takesIn K (.builtin "object.__class__") = some true) && decide (PySem.W.mroIn K D (.type "object") = some true)
theorem excC_by {K : PySem.W.Frag} {D : Addr} (h : excCB K D = true) : ExcC K D := by
  unfold excCB at h
  simp only [Bool.and_eq_true, decide_eq_true_eq] at h
  obtain ⟨⟨⟨⟨⟨⟨⟨h1, h2⟩, h3⟩, h4⟩, h5⟩, h6⟩, h7⟩, h8⟩ := h
  exact ⟨He.eqO_ok h1, He.eqO_ok h2, h3, h4, He.eqO_ok h5, He.eqO_ok h6, h7, h8⟩
def ceOf (K : PySem.W.Frag) (c : Nat) : Addr := He.ga K (excN.getD c "")
def errB (K : PySem.W.Frag) : Bool :=
  ((List.range 11).all fun c => excCB K (ceOf K c) && decide (PySem.W.kitOne K (.ref (ceOf K c)) (.type "ValueError") = some true)) && (List.range 11).all fun c => (List.range 11).all fun c' => decide (PySem.W.kitOne K (.ref (ceOf K c)) (.ref (ceOf K c')) = some (decide (c' = c)))
end Mp

set_option maxRecDepth 100000
set_option maxHeartbeats 4000000
/-! Mp15: a row of a law: what its text and its head must say; its end. -/
namespace Mp
open PySem PySem.Spec PyProof.Rows L2
structure Row where
  top : Nat → Stmt
  rows : List DR
  nums : List (Nat × Str × Int)
  tups : List (Nat × Str × D)
  blts : List Str
  ic : Nat
  ir : Nat
  im : Nat
  it : Nat
  il : Nat
  N : List Str
  di : Nat
  m : Int
  told : Bool
  lb : List MS
namespace Row
variable (R : Row)
def gl : List (Nat × Str) := (R.nums.map fun p => (p.1, p.2.1)) ++ R.tups.map fun p => (p.1, p.2.1)
def gd : List (Nat × D) := (R.nums.map fun p => (p.1, PyData.int p.2.2)) ++ R.tups.map fun p => (p.1, p.2.2)
def nm : Nm := ⟨fun f => (R.rows.find? fun r => r.id == f).map fun r => (r.name, r.ps.length), fun g => R.gl.lookup g, fun c => excN[c]?, R.blts⟩
def G : Nat → Option D := fun g => if g < 1000 then R.gd.lookup g else (gAll[g - 1000]?).map fun nm => .tuple [.str "error", .str nm]
def fn : List He.DefD := dOf R.top "law" R.il :: dOf R.top "_law_cell" R.ic :: dOf R.top "_law_rounds" R.ir :: ((if R.told then [dOf R.top "_law_term" R.im, dOf R.top "_law_told" R.it] else []) ++ R.rows.map fun r => dOf R.top r.name r.i)
def fa : List He.Fa := .glo "law" :: .glo "_law_cell" :: .glo "_law_rounds" :: ((if R.told then [.glo "_law_term", .glo "_law_told"] else []) ++ ((R.rows.map fun r => .glo r.name) ++ ((excN.map fun x => .glo x) ++ ((excN.map fun x => .exc x) ++ ((excN.map fun x => .exm x "BentError" true) ++ ((R.nums.map fun p => .int p.2.1 p.2.2) ++ ((R.tups.map fun p => .glo p.2.1) ++ (R.blts.map fun x => .free x))))))))
def ex (K : PySem.W.Frag) : Bool := (R.tups.all fun p => dataB K 10 (.ref (He.ga K p.2.1)) p.2.2) && (!R.told || errB K)
def tf : List He.Defn := if R.told then [("law", none)] else []
/-- the text -/
def ok (tb : Tb) : Bool :=
  (R.rows.all fun r => drOk tb R.nm R.top r) &&
  (argsB [("script" : Str), ("k" : Str)] (defArgs (R.top R.ic)) && scopeB [("script" : Str), ("k" : Str)] [("script" : Str), ("k" : Str)] (defScope (R.top R.ic)) && ckCell (defBody (R.top R.ic)) && globs (defScope (R.top R.ic)) [("len" : Str)]) &&
  (argsB [("script" : Str), ("most" : Str)] (defArgs (R.top R.ir)) && scopeB [("script" : Str), ("most" : Str), ("k" : Str)] [("script" : Str), ("most" : Str)] (defScope (R.top R.ir)) && ckRounds (defScope (R.top R.ir)) (defBody (R.top R.ir)) && globs (defScope (R.top R.ir)) [("len" : Str), ("range" : Str), ("max" : Str), ("min" : Str)]) &&
  (argsB [("script" : Str)] (defArgs (R.top R.il)) && scopeB R.N [("script" : Str)] (defScope (R.top R.il)) && ckLaw R.nm R.N (defScope (R.top R.il)) R.di R.m R.told R.lb (defBody (R.top R.il)) && globs (defScope (R.top R.il)) [("_law_rounds" : Str)]) &&
  (!R.told || (argsB [("e" : Str)] (defArgs (R.top R.im)) && scopeB [("e" : Str), ("flags" : Str), ("kinds" : Str)] [("e" : Str)] (defScope (R.top R.im)) && ckTerm (defBody (R.top R.im)) && globs (defScope (R.top R.im)) (("isinstance" : Str) :: ("sum" : Str) :: ("ValueError" : Str) :: gAll) &&
    (decide ((defScope (R.top R.im)).names.lookup ("e" : Str) = some .local) && decide ((defScope (R.top R.im)).names.lookup ("flags" : Str) = some .local) && decide ((defScope (R.top R.im)).names.lookup ("kinds" : Str) = some .local)) &&
    (argsB [("deed" : Str)] (defArgs (R.top R.it)) && scopeB [("deed" : Str), ("e" : Str)] [("deed" : Str)] (defScope (R.top R.it)) && ckTold (defBody (R.top R.it)) && globs (defScope (R.top R.it)) [("BentError" : Str), ("_law_term" : Str)] && decide ((defScope (R.top R.it)).names.lookup ("deed" : Str) = some .local) && decide ((defScope (R.top R.it)).names.lookup ("e" : Str) = some .local)) &&
    ([("isinstance" : Str), ("sum" : Str), ("int" : Str), ("ValueError" : Str)].all fun x => decide (x ∈ R.blts)))) &&
  ([("len" : Str), ("range" : Str), ("max" : Str), ("min" : Str)].all fun x => decide (x ∈ R.blts)) && (R.nums.all fun p => decide (p.1 < 1000)) && (R.tups.all fun p => decide (p.1 < 1000)) && decide ((R.gl.map (·.1)).Nodup)
end Row
theorem look_in {α : Type} {g : Nat} {x : α} : ∀ {l : List (Nat × α)}, l.lookup g = some x → (g, x) ∈ l
  | [], h => by cases h
  | (b, u) :: r, h => by
    rw [List.lookup_cons] at h
    cases q : g == b with
    | true =>
      rw [q] at h
      cases h
      rw [beq_iff_eq.mp q]
      exact List.mem_cons_self
    | false =>
      rw [q] at h
      exact List.mem_cons_of_mem _ (look_in h)
theorem look_nd {α : Type} {g : Nat} {x : α} : ∀ {l : List (Nat × α)}, (l.map (·.1)).Nodup → (g, x) ∈ l → l.lookup g = some x
  | [], _, h => by cases h
  | (b, u) :: r, nd, h => by
    rw [List.lookup_cons]
    rcases List.mem_cons.mp h with e | e
    · cases e
      rw [beq_self_eq_true]
    · have nb : (g == b) = false := by
        cases q : g == b with
        | false => rfl
        | true =>
          have := beq_iff_eq.mp q
          exact absurd (List.mem_map.mpr ⟨(g, x), e, this⟩) (List.nodup_cons.mp nd).1
      rw [nb]
      exact look_nd (List.nodup_cons.mp nd).2 e
section
variable {R : Row} {tb : Tb} {P : Program} {w : World} {K : PySem.W.Frag} {h base : Heap} {mg : Str → Option Value} {T : List (Addr × Str)}
theorem Row.gdl (R : Row) : R.gd.map (·.1) = R.gl.map (·.1) := by
  unfold Row.gd Row.gl
  rw [List.map_append, List.map_append, List.map_map, List.map_map, List.map_map, List.map_map]
  rfl
theorem row_pr (hok : R.ok tb = true) (X : K.In h) (Gh : h.Ns mainGlobals mg) (c : He.SaysX R.fa R.fn [] R.tf R.ex w h K) : PrOk P w K mg base T (ceOf K) R.G R.nm tb := by
  have cd := c.t.d
  have fact : ∀ f ∈ R.fa, f.ok K = true := fun f hf => cd.facts hf
  unfold Row.ok at hok
  simp only [Bool.and_eq_true, decide_eq_true_eq, List.all_eq_true] at hok
  obtain ⟨⟨⟨⟨⟨⟨⟨⟨hrows, hcell⟩, hrnd⟩, hlaw⟩, htold⟩, hblt⟩, hi⟩, htp⟩, hnd⟩ := hok
  refine ⟨fun f x n hf => ?_, fun g x hg => ?_, fun x hx => ?_, fun cc x hx => ?_⟩
  · have hf : (R.rows.find? fun r => r.id == f).map (fun r => (r.name, r.ps.length)) = some (x, n) := hf
    cases q : R.rows.find? fun r => r.id == f with
    | none => rw [q] at hf; cases hf
    | some r =>
      rw [q] at hf
      cases hf
      have hm := List.mem_of_find?_eq_some q
      have hid : r.id = f := by
        have := List.find?_some q
        exact beq_iff_eq.mp this
      have hr := hrows r hm
      unfold drOk at hr
      simp only [Bool.and_eq_true] at hr
      obtain ⟨⟨h1, h2⟩, h3⟩ := hr
      rw [hid] at h3
      split at h3
      · rename_i g hg
        simp only [Bool.and_eq_true, decide_eq_true_eq] at h3
        obtain ⟨⟨h4, h5⟩, h6⟩ := h3
        obtain ⟨fd, F⟩ := cd.defs (d := dOf R.top r.name r.i) (by
          unfold Row.fn
          exact List.mem_cons_of_mem _ (List.mem_cons_of_mem _ (List.mem_cons_of_mem _ (List.mem_append_right _ (List.mem_map.mpr ⟨r, hm, rfl⟩)))))
        have F : FunD K r.name r.name (defArgs (R.top r.i)) (defBody (R.top r.i)) (defScope (R.top r.i)) [] [] (He.ga K r.name) fd := F
        refine .df (He.glo_ok X Gh (fact (.glo r.name) ?_)) F (scope_by h2) (binds_by h1 F) rfl hg h4 h5 h6
        unfold Row.fa
        exact List.mem_cons_of_mem _ (List.mem_cons_of_mem _ (List.mem_cons_of_mem _ (List.mem_append_right _ (List.mem_append_left _ (List.mem_map.mpr ⟨r, hm, rfl⟩)))))
      · cases h3
  · have hg : R.gl.lookup g = some x := hg
    have hm := look_in hg
    unfold Row.gl at hm
    have lt : ∀ g ∈ R.gl.map (·.1), g < 1000 := fun g hg => by
      unfold Row.gl at hg
      rw [List.map_append, List.map_map, List.map_map] at hg
      rcases List.mem_append.mp hg with z | z
      · obtain ⟨p, hp, e⟩ := List.mem_map.mp z
        rw [← e]
        exact hi p hp
      · obtain ⟨p, hp, e⟩ := List.mem_map.mp z
        rw [← e]
        exact htp p hp
    have hG : R.G g = R.gd.lookup g := if_pos (lt g (List.mem_map.mpr ⟨(g, x), look_in hg, rfl⟩))
    rcases List.mem_append.mp hm with z | z
    · obtain ⟨p, hp, e⟩ := List.mem_map.mp z
      cases e
      obtain ⟨t, et⟩ := He.int_ok X Gh (fact (.int p.2.1 p.2.2) (by
        unfold Row.fa
        exact List.mem_cons_of_mem _ (List.mem_cons_of_mem _ (List.mem_cons_of_mem _ (List.mem_append_right _ (List.mem_append_right _ (List.mem_append_right _ (List.mem_append_right _ (List.mem_append_right _ (List.mem_append_left _ (List.mem_map.mpr ⟨p, hp, rfl⟩)))))))))))
      refine ⟨_, .int p.2.2, et, ⟨t, rfl⟩, fun d hd H θ => ?_⟩
      have e2 : R.gd.lookup p.1 = some (.int p.2.2) := look_nd (by rw [R.gdl]; exact hnd) (List.mem_append_left _ (List.mem_map.mpr ⟨p, hp, rfl⟩))
      rw [hG, e2] at hd
      cases hd
      exact .int _
    · obtain ⟨p, hp, e⟩ := List.mem_map.mp z
      cases e
      have e1 := He.glo_ok X Gh (fact (.glo p.2.1) (by
        unfold Row.fa
        exact List.mem_cons_of_mem _ (List.mem_cons_of_mem _ (List.mem_cons_of_mem _ (List.mem_append_right _ (List.mem_append_right _ (List.mem_append_right _ (List.mem_append_right _ (List.mem_append_right _ (List.mem_append_right _ (List.mem_append_left _ (List.mem_map.mpr ⟨p, hp, rfl⟩))))))))))))
      have hx : R.ex K = true := c.more
      unfold Row.ex at hx
      rw [Bool.and_eq_true, List.all_eq_true] at hx
      obtain ⟨v, r1, r2⟩ := data_ok 10 _ _ (hx.1 p hp)
      refine ⟨_, v, e1, r1, fun d hd H θ => ?_⟩
      have e2 : R.gd.lookup p.1 = some p.2.2 := look_nd (by rw [R.gdl]; exact hnd) (List.mem_append_right _ (List.mem_map.mpr ⟨p, hp, rfl⟩))
      rw [hG, e2] at hd
      cases hd
      exact r2 H θ
  · have hx : x ∈ R.blts := hx
    refine He.free_ok X Gh (fact (.free x) ?_)
    unfold Row.fa
    exact List.mem_cons_of_mem _ (List.mem_cons_of_mem _ (List.mem_cons_of_mem _ (List.mem_append_right _ (List.mem_append_right _ (List.mem_append_right _ (List.mem_append_right _ (List.mem_append_right _ (List.mem_append_right _ (List.mem_append_right _ (List.mem_map.mpr ⟨x, hx, rfl⟩))))))))))
  · have hx : excN[cc]? = some x := hx
    have hm := List.mem_of_getElem? hx
    have ec : ceOf K cc = He.ga K x := by
      unfold ceOf
      rw [List.getD_eq_getElem?_getD, hx]
      rfl
    have e1 := He.glo_ok X Gh (fact (.glo x) (by
      unfold Row.fa
      exact List.mem_cons_of_mem _ (List.mem_cons_of_mem _ (List.mem_cons_of_mem _ (List.mem_append_right _ (List.mem_append_right _ (List.mem_append_left _ (List.mem_map.mpr ⟨x, hm, rfl⟩))))))))
    have e2 := He.exc_ok (fact (.exc x) (by
      unfold Row.fa
      exact List.mem_cons_of_mem _ (List.mem_cons_of_mem _ (List.mem_cons_of_mem _ (List.mem_append_right _ (List.mem_append_right _ (List.mem_append_right _ (List.mem_append_left _ (List.mem_map.mpr ⟨x, hm, rfl⟩)))))))))
    rw [ec]
    exact ⟨e1, e2⟩
theorem row_names (R : Row) : NamesG R.G := by
  intro c d h
  have e : R.G (1000 + c) = (gAll[c]?).map fun nm => .tuple [.str "error", .str nm] := by
    unfold Row.G
    rw [if_neg (by omega), Nat.add_sub_cancel_left]
  rw [e] at h
  cases q : gAll[c]? with
  | none => rw [q] at h; cases h
  | some nm => rw [q] at h; cases h; exact ⟨nm, rfl, rfl⟩
theorem row_at {l : PySem.W.OpenLaw} {fA : Addr} {n : Nat} (hok : R.ok tb = true) (X : K.In h) (Gh : h.Ns mainGlobals mg) (hfA : mg ("law" : Str) = some (.ref fA)) (c : He.SaysX R.fa R.fn [] R.tf R.ex w h K)
    (hrun : ∀ c : Int, Builtin.Int.intBits c ≤ 1048576 → ∃ en μ, exs R.G (callN R.G tb n) R.lb (en0 R.N R.di) [.lst [.int c, .int 0]] = some (.next en μ)) :
    LamX.LawAtS l w K (L2N.CX l.prog w) (n + 3) 63 "script" mg fA h := by
  have cd := c.t.d
  have fact : ∀ f ∈ R.fa, f.ok K = true := fun f hf => cd.facts hf
  have hok0 := hok
  unfold Row.ok at hok
  simp only [Bool.and_eq_true, decide_eq_true_eq, List.all_eq_true] at hok
  obtain ⟨⟨⟨⟨⟨⟨⟨⟨hrows, hcell⟩, hrnd⟩, hlaw⟩, htold⟩, hblt⟩, hi⟩, htp⟩, hnd⟩ := hok
  obtain ⟨⟨⟨a1, a2⟩, a3⟩, a4⟩ := hlaw
  obtain ⟨⟨⟨b1, b2⟩, b3⟩, b4⟩ := hcell
  obtain ⟨⟨⟨c1, c2⟩, c3⟩, c4⟩ := hrnd
  have m0 : ∀ f, f ∈ [He.Fa.glo "law", .glo "_law_cell", .glo "_law_rounds"] → f ∈ R.fa := fun f hf => by
    unfold Row.fa
    simp only [List.mem_cons, List.not_mem_nil, or_false] at hf ⊢
    rcases hf with e | e | e
    · exact .inl e
    · exact .inr (.inl e)
    · exact .inr (.inr (.inl e))
  have free : ∀ x ∈ R.blts, mg x = none := fun x hx => He.free_ok X Gh (fact (.free x) (by
    unfold Row.fa
    exact List.mem_cons_of_mem _ (List.mem_cons_of_mem _ (List.mem_cons_of_mem _ (List.mem_append_right _ (List.mem_append_right _ (List.mem_append_right _ (List.mem_append_right _ (List.mem_append_right _ (List.mem_append_right _ (List.mem_append_right _ (List.mem_map.mpr ⟨x, hx, rfl⟩)))))))))))) 
  obtain ⟨fd, F⟩ := cd.defs (d := dOf R.top "law" R.il) (by unfold Row.fn; simp)
  obtain ⟨fdc, FC⟩ := cd.defs (d := dOf R.top "_law_cell" R.ic) (by unfold Row.fn; simp)
  obtain ⟨fdr, FR⟩ := cd.defs (d := dOf R.top "_law_rounds" R.ir) (by unfold Row.fn; simp)
  have F : FunD K "law" "law" (defArgs (R.top R.il)) (defBody (R.top R.il)) (defScope (R.top R.il)) [] [] (He.ga K "law") fd := F
  have FC : FunD K "_law_cell" "_law_cell" (defArgs (R.top R.ic)) (defBody (R.top R.ic)) (defScope (R.top R.ic)) [] [] (He.ga K "_law_cell") fdc := FC
  have FR : FunD K "_law_rounds" "_law_rounds" (defArgs (R.top R.ir)) (defBody (R.top R.ir)) (defScope (R.top R.ir)) [] [] (He.ga K "_law_rounds") fdr := FR
  have eA : fA = He.ga K "law" := by
    have e := hfA.symm.trans (He.glo_ok X Gh (fact (.glo "law") (m0 _ (by simp))))
    cases e
    rfl
  subst eA
  have gC := He.glo_ok X Gh (fact (.glo "_law_cell") (m0 _ (by simp)))
  have gR := He.glo_ok X Gh (fact (.glo "_law_rounds") (m0 _ (by simp)))
  have hC : CellDef K mg (He.ga K "_law_cell") fdc := ⟨⟨_, _, _, gC, FC, scope_by b2, binds_by b1 FC, b3, b4⟩, free _ (hblt _ (by simp)), FC.kp⟩
  have hR : RoundsDef K mg (He.ga K "_law_rounds") fdr := ⟨⟨_, _, _, gR, FR, scope_by c2, binds_by c1 FR, c3, c4⟩, fun x hx => free x (hblt x hx), FR.kp⟩
  obtain ⟨oc, od, dV, kV, doc, pm, an, cdv, ct, osl, efd, lk, hcdI, _, _⟩ := F.ex
  obtain ⟨cA, ecA⟩ := He.codeIn_ref hcdI
  have hcode : fd.code = .ref cA := by rw [efd]; exact ecA
  have hL : LawDef K mg R.nm R.N R.di R.m R.told R.lb (He.ga K "law") fd cA := ⟨⟨_, _, _, F, scope_by a2, a3, a4, hcode⟩⟩
  have eC : He.codeOf K (("law" : Str), none) = cA := He.codeOf_eq (show K.lookup (He.ga K "law") = _ from lk) hcode
  refine ⟨fd, R.tf.map (He.cT K), spLaw K (if R.told then [((He.cT K (("law" : Str), none)).2, (("law" : Str) ++ ".<locals>.") ++ "<lambda>")] else []), fun p hp => ?_, fun p hp => ?_, fun p hp => ?_, fun s u => bindsA_by a1 F s [u] rfl, fun H a ns hl hb hH hS => ⟨a, ns, rfl, hS, hl, hb, ?_, fun _ => rfl⟩, fun base KB GB TB => ?_⟩
  · obtain ⟨q, hq, e⟩ := List.mem_map.mp hp
    rw [← e]
    exact c.empty q hq
  · obtain ⟨q, hq, e⟩ := List.mem_map.mp hp
    rw [← e]
    exact c.out q hq
  · obtain ⟨q, hq, e⟩ := List.mem_map.mp hp
    rw [← e]
    exact PySem.W.codeHd_of_K X (c.hd q hq)
  · intro p hp
    cases q : R.told with
    | false => rw [q] at hp; cases hp
    | true =>
      rw [q] at hp
      rcases List.mem_cons.mp hp with e | e
      · rw [e]
        refine LamX.TabS.nil (hH (He.cT K (("law" : Str), none)) ?_)
        refine List.mem_map.mpr ⟨(("law" : Str), none), ?_, rfl⟩
        unfold Row.tf
        rw [q]
        exact List.mem_cons_self
      · cases e
  · refine law_ok (row_pr hok0 X Gh c) hC hR hL (fun q => ?_) hrun
    have q : R.told = true := q
    rw [q] at htold ⊢
    have htold : (argsB [("e" : Str)] (defArgs (R.top R.im)) && scopeB [("e" : Str), ("flags" : Str), ("kinds" : Str)] [("e" : Str)] (defScope (R.top R.im)) && ckTerm (defBody (R.top R.im)) && globs (defScope (R.top R.im)) (("isinstance" : Str) :: ("sum" : Str) :: ("ValueError" : Str) :: gAll) &&
      (decide ((defScope (R.top R.im)).names.lookup ("e" : Str) = some .local) && decide ((defScope (R.top R.im)).names.lookup ("flags" : Str) = some .local) && decide ((defScope (R.top R.im)).names.lookup ("kinds" : Str) = some .local)) &&
      (argsB [("deed" : Str)] (defArgs (R.top R.it)) && scopeB [("deed" : Str), ("e" : Str)] [("deed" : Str)] (defScope (R.top R.it)) && ckTold (defBody (R.top R.it)) && globs (defScope (R.top R.it)) [("BentError" : Str), ("_law_term" : Str)] && decide ((defScope (R.top R.it)).names.lookup ("deed" : Str) = some .local) && decide ((defScope (R.top R.it)).names.lookup ("e" : Str) = some .local)) &&
      ([("isinstance" : Str), ("sum" : Str), ("int" : Str), ("ValueError" : Str)].all fun x => decide (x ∈ R.blts))) = true := htold
    simp only [Bool.and_eq_true, decide_eq_true_eq] at htold
    obtain ⟨⟨⟨⟨⟨⟨e1, e2⟩, e3⟩, e4⟩, ⟨e5, e6⟩, e7⟩, ⟨⟨⟨⟨⟨f1, f2⟩, f3⟩, f4⟩, f5⟩, f6⟩⟩, e8⟩ := htold
    rw [List.all_eq_true] at e8
    obtain ⟨fdm, FM⟩ := cd.defs (d := dOf R.top "_law_term" R.im) (by unfold Row.fn; rw [q]; simp)
    obtain ⟨fdt, FT⟩ := cd.defs (d := dOf R.top "_law_told" R.it) (by unfold Row.fn; rw [q]; simp)
    have FM : FunD K "_law_term" "_law_term" (defArgs (R.top R.im)) (defBody (R.top R.im)) (defScope (R.top R.im)) [] [] (He.ga K "_law_term") fdm := FM
    have FT : FunD K "_law_told" "_law_told" (defArgs (R.top R.it)) (defBody (R.top R.it)) (defScope (R.top R.it)) [] [] (He.ga K "_law_told") fdt := FT
    have gM := He.glo_ok X Gh (fact (.glo "_law_term") (by unfold Row.fa; rw [q]; simp))
    have gT := He.glo_ok X Gh (fact (.glo "_law_told") (by unfold Row.fa; rw [q]; simp))
    have hx : R.ex K = true := c.more
    unfold Row.ex at hx
    rw [q] at hx
    have hx : errB K = true := (Bool.and_eq_true_iff.mp hx).2
    unfold errB at hx
    simp only [Bool.and_eq_true, List.all_eq_true, decide_eq_true_eq] at hx
    obtain ⟨hx1, hx2⟩ := hx
    have gx : ∀ x ∈ excN, mg x = some (.ref (He.ga K x)) := fun x hm => He.glo_ok X Gh (fact (.glo x) (by
      unfold Row.fa
      exact List.mem_cons_of_mem _ (List.mem_cons_of_mem _ (List.mem_cons_of_mem _ (List.mem_append_right _ (List.mem_append_right _ (List.mem_append_left _ (List.mem_map.mpr ⟨x, hm, rfl⟩))))))))
    have ceN : ∀ (cc : Nat) (C : Str), gAll[cc]? = some C → ceOf K cc = He.ga K C := fun cc C hC => by
      have hl : cc < gAll.length := (List.getElem?_eq_some_iff.mp hC).1
      unfold ceOf excN
      rw [List.getD_eq_getElem?_getD, List.getElem?_append_left hl, hC]
      rfl
    refine ⟨⟨⟨_, _, _, _, _, gM, FM, scope_by e2, binds_by e1 FM, e3, e4, e5, e6, e7⟩⟩, ⟨fun cc C hC => ?_, fun cc c' h1 h2 => hx2 cc (List.mem_range.mpr h1) c' (List.mem_range.mpr h2), fun x hx => free x (of_decide_eq_true (e8 x hx)), He.ga K "BentError", gx _ (by decide), fun cc h1 => ?_⟩, ⟨⟨_, _, _, _, _, gT, FT, scope_by f2, binds_by f1 FT, f3, f4, f5, f6⟩⟩, row_names R, (He.cT K (("law" : Str), none)).2, ?_, by rw [if_pos rfl]⟩
    · have hl : cc < 11 := (List.getElem?_eq_some_iff.mp hC).1
      obtain ⟨z1, z2⟩ := hx1 cc (List.mem_range.mpr hl)
      refine ⟨?_, excC_by z1, z2⟩
      rw [ceN cc C hC]
      exact gx C (List.mem_append_left _ (List.mem_of_getElem? hC))
    · have hl : cc < gAll.length := h1
      have hC : gAll[cc]? = some gAll[cc] := List.getElem?_eq_getElem hl
      rw [ceN cc _ hC]
      exact He.exm_ok (fact (.exm gAll[cc] "BentError" true) (by
        unfold Row.fa
        exact List.mem_cons_of_mem _ (List.mem_cons_of_mem _ (List.mem_cons_of_mem _ (List.mem_append_right _ (List.mem_append_right _ (List.mem_append_right _ (List.mem_append_right _ (List.mem_append_left _ (List.mem_map.mpr ⟨gAll[cc], List.mem_append_left _ (List.getElem_mem hl), rfl⟩))))))))))
    · have tbl := TB (He.cT K (("law" : Str), none)) (List.mem_map.mpr ⟨(("law" : Str), none), by unfold Row.tf; rw [q]; exact List.mem_cons_self, rfl⟩)
      have e9 : (He.cT K (("law" : Str), none)).1 = cA := eC
      rw [e9] at tbl
      exact tbl
end
theorem roomC {k : Nat} (h : k ≤ 200) : Room k callerA := ⟨rfl, by
  have e : callerA.depth + 3 * 200 + 5 < recursionLimit := by decide
  omega, by
  have e : callerA.units + 16 * 200 + 200 < cLine := by decide
  omega⟩
theorem noCX {P : Program} {w : World} {H : Hp} {s s' : Shared} {e : Value} (h : L2N.CX P w [] H s (fun _ _ _ => False) e s') : False := by
  obtain ⟨_, _, _, _, _, _, _, _, _, _, _, _, z⟩ := h
  exact z
end Mp

set_option maxRecDepth 100000
/-! Tb: the defs of the text in the small Python (printed by gen_ms.py). -/
namespace Mp
open PySem L2
def natAt (i : Nat) (en : En) : Nat := match en[i]? with
  | some (some (.d (.int j))) => j.natAbs + 1
  | _ => 0
def fuel_divisor : En → Nat := natAt 1
def fuel__law_low : En → Nat := natAt 3
def fuel__wall : En → Nat := natAt 0
def fn_divisor : Fn := ⟨2, 2, [.whl (.cmp .ne (.var 1) (.cst (.int 0))) [.par 0 1 (.var 1) (.bin .mod (.var 0) (.var 1))] fuel_divisor, .ret (.var 0)]⟩
def fn_lowest : Fn := ⟨2, 3, [.asg (.n 2) (.call 1 (.cons (.blt .abs (.cons (.var 0) .nil)) (.cons (.blt .abs (.cons (.var 1) .nil)) .nil))), .iff (.cmp .lt (.var 1) (.cst (.int 0))) [.asg (.n 2) (.neg (.var 2))] [], .ret (.tup (.cons (.bin .fdiv (.var 0) (.var 2)) (.cons (.bin .fdiv (.var 1) (.var 2)) .nil)))]⟩
def fn_plus : Fn := ⟨2, 2, [.ret (.call 2 (.cons (.bin .add (.bin .mul (.idx (.var 0) (.cst (.int 0))) (.idx (.var 1) (.cst (.int 1)))) (.bin .mul (.idx (.var 1) (.cst (.int 0))) (.idx (.var 0) (.cst (.int 1))))) (.cons (.bin .mul (.idx (.var 0) (.cst (.int 1))) (.idx (.var 1) (.cst (.int 1)))) .nil)))]⟩
def fn_times : Fn := ⟨2, 2, [.ret (.call 2 (.cons (.bin .mul (.idx (.var 0) (.cst (.int 0))) (.idx (.var 1) (.cst (.int 0)))) (.cons (.bin .mul (.idx (.var 0) (.cst (.int 1))) (.idx (.var 1) (.cst (.int 1)))) .nil)))]⟩
def fn_is_less : Fn := ⟨2, 2, [.ret (.cmp .lt (.bin .mul (.idx (.var 0) (.cst (.int 0))) (.idx (.var 1) (.cst (.int 1)))) (.bin .mul (.idx (.var 1) (.cst (.int 0))) (.idx (.var 0) (.cst (.int 1)))))]⟩
def fn_is_whole : Fn := ⟨3, 3, [.ret (.and (.isi (.var 0) .int) (.and (.not (.isi (.var 0) .bool)) (.chain .le .le (.var 1) (.var 0) (.var 2))))]⟩
def fn_is_fraction : Fn := ⟨2, 2, [.iff (.or (.not (.isi (.var 0) .tuple)) (.cmp .ne (.blt .len (.cons (.var 0) .nil)) (.cst (.int 2)))) [.ret (.cst (.bool false))] [], .iff (.or (.not (.call 6 (.cons (.idx (.var 0) (.cst (.int 0))) (.cons (.neg (.var 1)) (.cons (.var 1) .nil))))) (.not (.call 6 (.cons (.idx (.var 0) (.cst (.int 1))) (.cons (.cst (.int 1)) (.cons (.var 1) .nil)))))) [.ret (.cst (.bool false))] [], .ret (.cmp .eq (.call 1 (.cons (.blt .abs (.cons (.idx (.var 0) (.cst (.int 0))) .nil)) (.cons (.idx (.var 0) (.cst (.int 1))) .nil))) (.cst (.int 1)))]⟩
def fn_is_point : Fn := ⟨1, 2, [.ret (.and (.isi (.var 0) .tuple) (.and (.cmp .eq (.blt .len (.cons (.var 0) .nil)) (.cst (.int 2))) (.blt .all (.cons (.comp 1 (.seq (.var 0)) (.call 7 (.cons (.var 1) (.cons (.bin .pow (.cst (.int 10)) (.cst (.int 30))) .nil)))) .nil))))]⟩
def fn_is_shaped : Fn := ⟨2, 2, [.iff (.or (.not (.isi (.var 0) .tuple)) (.or (.cmp .lt (.blt .len (.cons (.var 0) .nil)) (.cst (.int 2))) (.or (.not (.isi (.idx (.var 0) (.cst (.int 0))) .str)) (.cmp .eq (.var 1) (.cst (.int 0)))))) [.ret (.cst (.bool false))] [], .iff (.cmp .eq (.idx (.var 0) (.cst (.int 0))) (.cst (.str (Str.ofString "in")))) [.ret (.and (.cmp .eq (.blt .len (.cons (.var 0) .nil)) (.cst (.int 2))) (.call 6 (.cons (.idx (.var 0) (.cst (.int 1))) (.cons (.cst (.int 0)) (.cons (.cst (.int 1)) .nil)))))] [], .iff (.cmp .eq (.idx (.var 0) (.cst (.int 0))) (.cst (.str (Str.ofString "num")))) [.ret (.and (.cmp .eq (.blt .len (.cons (.var 0) .nil)) (.cst (.int 2))) (.call 7 (.cons (.idx (.var 0) (.cst (.int 1))) (.cons (.cst (.int 99)) .nil))))] [], .iff (.cmp .eq (.idx (.var 0) (.cst (.int 0))) (.cst (.str (Str.ofString "size")))) [.ret (.and (.cmp .eq (.blt .len (.cons (.var 0) .nil)) (.cst (.int 2))) (.call 9 (.cons (.idx (.var 0) (.cst (.int 1))) (.cons (.bin .sub (.var 1) (.cst (.int 1))) .nil))))] [], .iff (.cmp .ne (.blt .len (.cons (.var 0) .nil)) (.cst (.int 3))) [.ret (.cst (.bool false))] [], .iff (.cmp .eq (.idx (.var 0) (.cst (.int 0))) (.cst (.str (Str.ofString "times")))) [.ret (.and (.call 7 (.cons (.idx (.var 0) (.cst (.int 1))) (.cons (.cst (.int 99)) .nil))) (.call 9 (.cons (.idx (.var 0) (.cst (.int 2))) (.cons (.bin .sub (.var 1) (.cst (.int 1))) .nil))))] [], .iff (.cmp .nin (.idx (.var 0) (.cst (.int 0))) (.tup (.cons (.cst (.str (Str.ofString "add"))) (.cons (.cst (.str (Str.ofString "more"))) (.cons (.cst (.str (Str.ofString "less"))) .nil))))) [.ret (.cst (.bool false))] [], .ret (.and (.call 9 (.cons (.idx (.var 0) (.cst (.int 1))) (.cons (.bin .sub (.var 1) (.cst (.int 1))) .nil))) (.call 9 (.cons (.idx (.var 0) (.cst (.int 2))) (.cons (.bin .sub (.var 1) (.cst (.int 1))) .nil))))]⟩
def fn_parts_of : Fn := ⟨1, 1, [.iff (.cmp .inn (.idx (.var 0) (.cst (.int 0))) (.tup (.cons (.cst (.str (Str.ofString "in"))) (.cons (.cst (.str (Str.ofString "num"))) .nil)))) [.ret (.lst .nil)] [], .ret (.ite (.cmp .eq (.idx (.var 0) (.cst (.int 0))) (.cst (.str (Str.ofString "size")))) (.lst (.cons (.idx (.var 0) (.cst (.int 1))) .nil)) (.ite (.cmp .eq (.idx (.var 0) (.cst (.int 0))) (.cst (.str (Str.ofString "times")))) (.lst (.cons (.idx (.var 0) (.cst (.int 2))) .nil)) (.lst (.cons (.idx (.var 0) (.cst (.int 1))) (.cons (.idx (.var 0) (.cst (.int 2))) .nil)))))]⟩
def fn_count_of : Fn := ⟨1, 2, [.ret (.bin .add (.cst (.int 1)) (.blt .sum (.cons (.comp 1 (.seq (.call 10 (.cons (.var 0) .nil))) (.call 11 (.cons (.var 1) .nil))) .nil)))]⟩
def fn_cuts_of : Fn := ⟨1, 2, [.ret (.bin .add (.blt .int (.cons (.cmp .inn (.idx (.var 0) (.cst (.int 0))) (.tup (.cons (.cst (.str (Str.ofString "more"))) (.cons (.cst (.str (Str.ofString "less"))) (.cons (.cst (.str (Str.ofString "size"))) .nil))))) .nil)) (.blt .sum (.cons (.comp 1 (.seq (.call 10 (.cons (.var 0) .nil))) (.call 12 (.cons (.var 1) .nil))) .nil)))]⟩
def fn_is_term : Fn := ⟨1, 1, [.ret (.and (.call 9 (.cons (.var 0) (.cons (.cst (.int 20)) .nil))) (.and (.cmp .le (.call 11 (.cons (.var 0) .nil)) (.glb 0)) (.cmp .le (.call 12 (.cons (.var 0) .nil)) (.glb 1))))]⟩
def fn_need_term : Fn := ⟨1, 1, [.iff (.not (.call 13 (.cons (.var 0) .nil))) [.raise 0] []]⟩
def fn_need_point : Fn := ⟨1, 1, [.iff (.not (.call 8 (.cons (.var 0) .nil))) [.raise 2] []]⟩
def fn_straight_at : Fn := ⟨2, 2, [.ret (.call 3 (.cons (.call 3 (.cons (.call 4 (.cons (.idx (.var 0) (.cst (.int 0))) (.cons (.idx (.var 1) (.cst (.int 0))) .nil))) (.cons (.call 4 (.cons (.idx (.var 0) (.cst (.int 1))) (.cons (.idx (.var 1) (.cst (.int 1))) .nil))) .nil))) (.cons (.idx (.var 0) (.cst (.int 2))) .nil)))]⟩
def fn_summed : Fn := ⟨2, 3, [.ret (.blt .tuple (.cons (.comp 2 (.rng1 (.cst (.int 3))) (.call 3 (.cons (.idx (.var 0) (.var 2)) (.cons (.idx (.var 1) (.var 2)) .nil)))) .nil))]⟩
def fn_scaled : Fn := ⟨2, 3, [.ret (.blt .tuple (.cons (.comp 2 (.seq (.var 0)) (.call 4 (.cons (.var 2) (.cons (.var 1) .nil)))) .nil))]⟩
def fn_is_under : Fn := ⟨3, 6, [.asg (.n 3) (.lst (.cons (.tup (.cons (.call 16 (.cons (.var 0) (.cons (.var 2) .nil))) (.cons (.call 16 (.cons (.var 1) (.cons (.var 2) .nil))) .nil))) (.cons (.tup (.cons (.idx (.var 0) (.cst (.int 0))) (.cons (.idx (.var 1) (.cst (.int 0))) .nil))) (.cons (.tup (.cons (.idx (.var 0) (.cst (.int 1))) (.cons (.idx (.var 1) (.cst (.int 1))) .nil))) .nil)))), .fr (.t [4, 5]) (.seq (.var 3)) [.iff (.cmp .ne (.var 4) (.var 5)) [.ret (.call 5 (.cons (.var 4) (.cons (.var 5) .nil)))] []], .ret (.cst (.bool false))]⟩
def fn_piece_of : Fn := ⟨2, 4, [.iff (.cmp .eq (.idx (.var 0) (.cst (.int 0))) (.cst (.str (Str.ofString "num")))) [.ret (.tup (.cons (.tup (.cons (.cst (.int 0)) (.cons (.cst (.int 1)) .nil))) (.cons (.tup (.cons (.cst (.int 0)) (.cons (.cst (.int 1)) .nil))) (.cons (.idx (.var 0) (.cst (.int 1))) .nil))))] [], .iff (.cmp .eq (.idx (.var 0) (.cst (.int 0))) (.cst (.str (Str.ofString "in")))) [.ret (.ite (.cmp .eq (.idx (.var 0) (.cst (.int 1))) (.cst (.int 0))) (.tup (.cons (.tup (.cons (.cst (.int 1)) (.cons (.cst (.int 1)) .nil))) (.cons (.tup (.cons (.cst (.int 0)) (.cons (.cst (.int 1)) .nil))) (.cons (.tup (.cons (.cst (.int 0)) (.cons (.cst (.int 1)) .nil))) .nil)))) (.tup (.cons (.tup (.cons (.cst (.int 0)) (.cons (.cst (.int 1)) .nil))) (.cons (.tup (.cons (.cst (.int 1)) (.cons (.cst (.int 1)) .nil))) (.cons (.tup (.cons (.cst (.int 0)) (.cons (.cst (.int 1)) .nil))) .nil)))))] [], .iff (.cmp .eq (.idx (.var 0) (.cst (.int 0))) (.cst (.str (Str.ofString "times")))) [.ret (.call 18 (.cons (.call 20 (.cons (.idx (.var 0) (.cst (.int 2))) (.cons (.var 1) .nil))) (.cons (.idx (.var 0) (.cst (.int 1))) .nil)))] [], .asg (.n 2) (.call 20 (.cons (.idx (.var 0) (.cst (.int 1))) (.cons (.var 1) .nil))), .iff (.cmp .eq (.idx (.var 0) (.cst (.int 0))) (.cst (.str (Str.ofString "size")))) [.ret (.ite (.call 19 (.cons (.var 2) (.cons (.glb 2) (.cons (.var 1) .nil)))) (.call 18 (.cons (.var 2) (.cons (.tup (.cons (.neg (.cst (.int 1))) (.cons (.cst (.int 1)) .nil))) .nil))) (.var 2))] [], .asg (.n 3) (.call 20 (.cons (.idx (.var 0) (.cst (.int 2))) (.cons (.var 1) .nil))), .iff (.cmp .eq (.idx (.var 0) (.cst (.int 0))) (.cst (.str (Str.ofString "add")))) [.ret (.call 17 (.cons (.var 2) (.cons (.var 3) .nil)))] [], .ret (.ite (.cmp .eq (.call 19 (.cons (.var 2) (.cons (.var 3) (.cons (.var 1) .nil)))) (.cmp .eq (.idx (.var 0) (.cst (.int 0))) (.cst (.str (Str.ofString "more"))))) (.var 3) (.var 2))]⟩
def fn_value_of : Fn := ⟨2, 2, [.ret (.call 16 (.cons (.call 20 (.cons (.var 0) (.cons (.var 1) .nil))) (.cons (.var 1) .nil)))]⟩
def fn_value : Fn := ⟨2, 2, [.expr (.call 14 (.cons (.var 0) .nil)), .expr (.call 15 (.cons (.var 1) .nil)), .ret (.call 21 (.cons (.var 0) (.cons (.var 1) .nil)))]⟩
def fn__law_cell : Fn := ⟨2, 2, [.iff (.cmp .eq (.var 0) (.lst .nil)) [.ret (.bin .mul (.var 1) (.cst (.int 7919)))] [], .ret (.bin .add (.idx (.var 0) (.bin .mod (.var 1) (.blt .len (.cons (.var 0) .nil)))) (.bin .mul (.bin .fdiv (.var 1) (.blt .len (.cons (.var 0) .nil))) (.cst (.int 104729))))]⟩
def fn__law_drawn : Fn := ⟨2, 3, [.asg (.n 2) (.bin .mod (.bin .add (.bin .mul (.var 0) (.cst (.int 6364136223846793005))) (.bin .mul (.bin .add (.var 1) (.cst (.int 1))) (.cst (.int 1442695040888963407)))) (.cst (.int 340282366920938463463374607431768211507))), .asg (.n 2) (.bin .mod (.bin .mul (.var 2) (.var 2)) (.cst (.int 340282366920938463463374607431768211297))), .asg (.n 2) (.bin .mul (.bin .mul (.bin .add (.bin .mod (.var 2) (.cst (.int 18446744073709551557))) (.cst (.int 1))) (.bin .add (.bin .fdiv (.var 2) (.cst (.int 18446744073709551557))) (.cst (.int 1)))) (.var 2)), .ret (.bin .mod (.var 2) (.cst (.int 340282366920938463463374607431768211507)))]⟩
def fn__law_roll : Fn := ⟨2, 3, [.iff (.cmp .ge (.idxC 0 (.cst (.int 0))) (.bin .pow (.cst (.int 10)) (.cst (.int 18)))) [.asg (.n 2) (.bin .mod (.idxC 0 (.cst (.int 0))) (.var 1)), .setC 0 (.cst (.int 0)) (.bin .fdiv (.idxC 0 (.cst (.int 0))) (.var 1)), .ret (.var 2)] [], .setC 0 (.cst (.int 1)) (.bin .add (.idxC 0 (.cst (.int 1))) (.cst (.int 1))), .ret (.bin .mod (.bin .fdiv (.call 24 (.cons (.idxC 0 (.cst (.int 0))) (.cons (.idxC 0 (.cst (.int 1))) .nil))) (.cst (.int 8))) (.var 1))]⟩
def fn__law_rounds : Fn := ⟨2, 3, [.ret (.comp 2 (.rng1 (.blt .max2 (.cons (.cst (.int 1)) (.cons (.blt .min2 (.cons (.var 1) (.cons (.blt .len (.cons (.var 0) .nil)) .nil))) .nil)))) (.lst (.cons (.call 23 (.cons (.var 0) (.cons (.var 2) .nil))) (.cons (.cst (.int 0)) .nil))))]⟩
def fn__law_term : Fn := ⟨1, 4, [.stk, .stk, .stk, .stk, .asg (.n 2) (.lst (.cons (.cst (.str (Str.ofString "InvalidTerm"))) (.cons (.cst (.str (Str.ofString "InvalidNet"))) (.cons (.cst (.str (Str.ofString "InvalidPoint"))) (.cons (.cst (.str (Str.ofString "InvalidNumber"))) (.cons (.cst (.str (Str.ofString "InvalidPolygon"))) (.cons (.cst (.str (Str.ofString "InvalidCell"))) .nil))))))), .asg (.n 2) (.bin .add (.var 2) (.lst (.cons (.cst (.str (Str.ofString "InvalidLooks"))) (.cons (.cst (.str (Str.ofString "InvalidText"))) (.cons (.cst (.str (Str.ofString "OnBorder"))) (.cons (.cst (.str (Str.ofString "NotOne"))) (.cons (.cst (.str (Str.ofString "NothingToUndo"))) .nil))))))), .stk, .stk]⟩
def fn__law_told : Fn := ⟨1, 2, [.stk]⟩
def fn__law_low : Fn := ⟨2, 4, [.par 2 3 (.blt .abs (.cons (.var 0) .nil)) (.blt .abs (.cons (.var 1) .nil)), .whl (.cmp .ne (.var 3) (.cst (.int 0))) [.par 2 3 (.var 3) (.bin .mod (.var 2) (.var 3))] fuel__law_low, .asg (.n 2) (.ite (.cmp .gt (.var 1) (.cst (.int 0))) (.var 2) (.neg (.var 2))), .ret (.tup (.cons (.bin .fdiv (.var 0) (.var 2)) (.cons (.bin .fdiv (.var 1) (.var 2)) .nil)))]⟩
def fn__law_plus : Fn := ⟨2, 2, [.ret (.call 29 (.cons (.bin .add (.bin .mul (.idx (.var 0) (.cst (.int 0))) (.idx (.var 1) (.cst (.int 1)))) (.bin .mul (.idx (.var 1) (.cst (.int 0))) (.idx (.var 0) (.cst (.int 1))))) (.cons (.bin .mul (.idx (.var 0) (.cst (.int 1))) (.idx (.var 1) (.cst (.int 1)))) .nil)))]⟩
def fn__law_times : Fn := ⟨2, 2, [.ret (.call 29 (.cons (.bin .mul (.idx (.var 0) (.cst (.int 0))) (.idx (.var 1) (.cst (.int 0)))) (.cons (.bin .mul (.idx (.var 0) (.cst (.int 1))) (.idx (.var 1) (.cst (.int 1)))) .nil)))]⟩
def fn__law_below : Fn := ⟨2, 2, [.ret (.cmp .lt (.bin .mul (.idx (.var 0) (.cst (.int 0))) (.idx (.var 1) (.cst (.int 1)))) (.bin .mul (.idx (.var 1) (.cst (.int 0))) (.idx (.var 0) (.cst (.int 1)))))]⟩
def fn__law_out : Fn := ⟨2, 5, [.iff (.cmp .eq (.idx (.var 0) (.cst (.int 0))) (.cst (.str (Str.ofString "in")))) [.ret (.idx (.var 1) (.idx (.var 0) (.cst (.int 1))))] [], .iff (.cmp .eq (.idx (.var 0) (.cst (.int 0))) (.cst (.str (Str.ofString "num")))) [.ret (.idx (.var 0) (.cst (.int 1)))] [], .iff (.cmp .eq (.idx (.var 0) (.cst (.int 0))) (.cst (.str (Str.ofString "times")))) [.ret (.call 31 (.cons (.idx (.var 0) (.cst (.int 1))) (.cons (.call 33 (.cons (.idx (.var 0) (.cst (.int 2))) (.cons (.var 1) .nil))) .nil)))] [], .asg (.n 2) (.call 33 (.cons (.idx (.var 0) (.cst (.int 1))) (.cons (.var 1) .nil))), .iff (.cmp .eq (.idx (.var 0) (.cst (.int 0))) (.cst (.str (Str.ofString "size")))) [.ret (.tup (.cons (.blt .abs (.cons (.idx (.var 2) (.cst (.int 0))) .nil)) (.cons (.idx (.var 2) (.cst (.int 1))) .nil)))] [], .asg (.n 3) (.call 33 (.cons (.idx (.var 0) (.cst (.int 2))) (.cons (.var 1) .nil))), .iff (.cmp .eq (.idx (.var 0) (.cst (.int 0))) (.cst (.str (Str.ofString "add")))) [.ret (.call 30 (.cons (.var 2) (.cons (.var 3) .nil)))] [], .asg (.n 4) (.call 32 (.cons (.var 2) (.cons (.var 3) .nil))), .ret (.ite (.cmp .eq (.var 4) (.cmp .eq (.idx (.var 0) (.cst (.int 0))) (.cst (.str (Str.ofString "more"))))) (.var 3) (.var 2))]⟩
def fn__law_fraction : Fn := ⟨2, 3, [.asg (.n 2) (.idx (.lst (.cons (.cst (.int 1)) (.cons (.cst (.int 1)) (.cons (.cst (.int 1)) (.cons (.cst (.int 2)) (.cons (.cst (.int 3)) .nil)))))) (.call 25 (.cons (.cv 0) (.cons (.cst (.int 5)) .nil)))), .ret (.call 29 (.cons (.bin .sub (.call 25 (.cons (.cv 0) (.cons (.bin .add (.bin .mul (.cst (.int 2)) (.var 1)) (.cst (.int 1))) .nil))) (.var 1)) (.cons (.var 2) .nil)))]⟩
def fn__law_straight : Fn := ⟨2, 3, [.asg (.n 2) (.tup (.cons (.cst (.str (Str.ofString "add"))) (.cons (.tup (.cons (.cst (.str (Str.ofString "times"))) (.cons (.call 34 (.cons (.cv 0) (.cons (.cst (.int 2)) .nil))) (.cons (.tup (.cons (.cst (.str (Str.ofString "in"))) (.cons (.cst (.int 0)) .nil))) .nil)))) (.cons (.tup (.cons (.cst (.str (Str.ofString "num"))) (.cons (.call 34 (.cons (.cv 0) (.cons (.cst (.int 4)) .nil))) .nil))) .nil)))), .iff (.and (.var 1) (.cmp .gt (.call 25 (.cons (.cv 0) (.cons (.cst (.int 4)) .nil))) (.cst (.int 0)))) [.asg (.n 2) (.tup (.cons (.cst (.str (Str.ofString "add"))) (.cons (.var 2) (.cons (.tup (.cons (.cst (.str (Str.ofString "times"))) (.cons (.call 34 (.cons (.cv 0) (.cons (.cst (.int 2)) .nil))) (.cons (.tup (.cons (.cst (.str (Str.ofString "in"))) (.cons (.cst (.int 1)) .nil))) .nil)))) .nil))))] [], .ret (.idx (.lst (.cons (.var 2) (.cons (.tup (.cons (.cst (.str (Str.ofString "in"))) (.cons (.cst (.int 0)) .nil))) (.cons (.var 2) (.cons (.tup (.cons (.cst (.str (Str.ofString "num"))) (.cons (.call 34 (.cons (.cv 0) (.cons (.cst (.int 3)) .nil))) .nil))) .nil))))) (.call 25 (.cons (.cv 0) (.cons (.cst (.int 4)) .nil))))]⟩
def fn__law_made : Fn := ⟨3, 5, [.iff (.cmp .eq (.var 1) (.cst (.int 0))) [.ret (.call 35 (.cons (.cv 0) (.cons (.var 2) .nil)))] [], .asg (.n 3) (.idx (.lst (.cons (.cst (.str (Str.ofString "more"))) (.cons (.cst (.str (Str.ofString "less"))) (.cons (.cst (.str (Str.ofString "size"))) (.cons (.cst (.str (Str.ofString "add"))) (.cons (.cst (.str (Str.ofString "times"))) (.cons (.cst (.str (Str.ofString "more"))) (.cons (.cst (.str (Str.ofString "less"))) .nil)))))))) (.call 25 (.cons (.cv 0) (.cons (.cst (.int 7)) .nil)))), .iff (.cmp .eq (.var 3) (.cst (.str (Str.ofString "size")))) [.ret (.tup (.cons (.cst (.str (Str.ofString "size"))) (.cons (.call 36 (.cons (.cv 0) (.cons (.bin .sub (.var 1) (.cst (.int 1))) (.cons (.var 2) .nil)))) .nil)))] [], .iff (.cmp .eq (.var 3) (.cst (.str (Str.ofString "times")))) [.ret (.tup (.cons (.cst (.str (Str.ofString "times"))) (.cons (.call 34 (.cons (.cv 0) (.cons (.cst (.int 2)) .nil))) (.cons (.call 36 (.cons (.cv 0) (.cons (.bin .sub (.var 1) (.cst (.int 1))) (.cons (.var 2) .nil)))) .nil))))] [], .asg (.n 4) (.call 25 (.cons (.cv 0) (.cons (.var 1) .nil))), .ret (.tup (.cons (.var 3) (.cons (.call 36 (.cons (.cv 0) (.cons (.var 4) (.cons (.var 2) .nil)))) (.cons (.call 36 (.cons (.cv 0) (.cons (.bin .sub (.bin .sub (.var 1) (.cst (.int 1))) (.var 4)) (.cons (.var 2) .nil)))) .nil))))]⟩
def fn__law_any : Fn := ⟨2, 3, [.asg (.n 2) (.call 36 (.cons (.cv 0) (.cons (.call 25 (.cons (.cv 0) (.cons (.bin .add (.var 1) (.cst (.int 1))) .nil))) (.cons (.cmp .gt (.call 25 (.cons (.cv 0) (.cons (.cst (.int 3)) .nil))) (.cst (.int 0))) .nil)))), .ret (.ite (.call 13 (.cons (.var 2) .nil)) (.var 2) (.tup (.cons (.cst (.str (Str.ofString "size"))) (.cons (.tup (.cons (.cst (.str (Str.ofString "in"))) (.cons (.cst (.int 0)) .nil))) .nil))))]⟩
def fn__law_point : Fn := ⟨2, 4, [.asg (.n 2) (.bin .sub (.call 25 (.cons (.cv 0) (.cons (.bin .mul (.bin .mul (.cst (.int 2)) (.var 1)) (.cst (.int 1000003))) .nil))) (.bin .mul (.var 1) (.cst (.int 1000003)))), .asg (.n 3) (.bin .sub (.call 25 (.cons (.cv 0) (.cons (.bin .mul (.bin .mul (.cst (.int 2)) (.var 1)) (.cst (.int 999983))) .nil))) (.bin .mul (.var 1) (.cst (.int 999983)))), .asg (.n 2) (.bin .add (.var 2) (.blt .int (.cons (.cmp .eq (.bin .mod (.var 2) (.cst (.int 1000003))) (.cst (.int 0))) .nil))), .ret (.tup (.cons (.tup (.cons (.var 2) (.cons (.cst (.int 1000003)) .nil))) (.cons (.tup (.cons (.bin .add (.var 3) (.blt .int (.cons (.cmp .eq (.bin .mod (.var 3) (.cst (.int 999983))) (.cst (.int 0))) .nil))) (.cons (.cst (.int 999983)) .nil))) .nil)))]⟩
def fn__law_whole_point : Fn := ⟨2, 3, [.ret (.blt .tuple (.cons (.comp 2 (.rng1 (.cst (.int 2))) (.call 29 (.cons (.bin .sub (.call 25 (.cons (.cv 0) (.cons (.bin .add (.bin .mul (.cst (.int 4)) (.var 1)) (.cst (.int 1))) .nil))) (.bin .mul (.cst (.int 2)) (.var 1))) (.cons (.cst (.int 2)) .nil)))) .nil))]⟩
def fn_fraction_text : Fn := ⟨1, 1, [.stk]⟩
def fn_written : Fn := ⟨1, 1, [.iff (.cmp .eq (.idx (.var 0) (.cst (.int 0))) (.cst (.str (Str.ofString "in")))) [.ret (.idx (.cst (.str (Str.ofString "xy"))) (.idx (.var 0) (.cst (.int 1))))] [], .iff (.cmp .eq (.idx (.var 0) (.cst (.int 0))) (.cst (.str (Str.ofString "num")))) [.ret (.call 40 (.cons (.idx (.var 0) (.cst (.int 1))) .nil))] [], .iff (.cmp .eq (.idx (.var 0) (.cst (.int 0))) (.cst (.str (Str.ofString "size")))) [.ret (.bin .add (.bin .add (.cst (.str (Str.ofString "|"))) (.call 41 (.cons (.idx (.var 0) (.cst (.int 1))) .nil))) (.cst (.str (Str.ofString "|"))))] [], .iff (.cmp .eq (.idx (.var 0) (.cst (.int 0))) (.cst (.str (Str.ofString "times")))) [.ret (.bin .add (.bin .add (.bin .add (.bin .add (.cst (.str (Str.ofString "("))) (.call 40 (.cons (.idx (.var 0) (.cst (.int 1))) .nil))) (.cst (.str (Str.ofString " * ")))) (.call 41 (.cons (.idx (.var 0) (.cst (.int 2))) .nil))) (.cst (.str (Str.ofString ")"))))] [], .ret (.bin .add (.bin .add (.bin .add (.bin .add (.cst (.str (Str.ofString "("))) (.call 41 (.cons (.idx (.var 0) (.cst (.int 1))) .nil))) (.idx (.glb 3) (.idx (.var 0) (.cst (.int 0))))) (.call 41 (.cons (.idx (.var 0) (.cst (.int 2))) .nil))) (.cst (.str (Str.ofString ")"))))]⟩
def fn_format_term : Fn := ⟨1, 1, [.expr (.call 14 (.cons (.var 0) .nil)), .ret (.call 41 (.cons (.var 0) .nil))]⟩
def fn_parse_term : Fn := ⟨1, 2, [.iff (.not (.isi (.var 0) .str)) [.raise 7] [], .stk, .iff (.or (.not (.call 13 (.cons (.var 1) .nil))) (.cmp .ne (.call 41 (.cons (.var 1) .nil)) (.var 0))) [.raise 7] [], .ret (.var 1)]⟩
def fn__law_text : Fn := ⟨1, 2, [.iff (.cmp .eq (.idx (.var 0) (.cst (.int 0))) (.cst (.str (Str.ofString "in")))) [.ret (.idx (.lst (.cons (.cst (.str (Str.ofString "x"))) (.cons (.cst (.str (Str.ofString "y"))) .nil))) (.idx (.var 0) (.cst (.int 1))))] [], .iff (.cmp .eq (.idx (.var 0) (.cst (.int 0))) (.cst (.str (Str.ofString "num")))) [.ret (.ite (.cmp .eq (.idx (.idx (.var 0) (.cst (.int 1))) (.cst (.int 1))) (.cst (.int 1))) (.blt .str (.cons (.idx (.idx (.var 0) (.cst (.int 1))) (.cst (.int 0))) .nil)) (.bin .add (.bin .add (.blt .str (.cons (.idx (.idx (.var 0) (.cst (.int 1))) (.cst (.int 0))) .nil)) (.cst (.str (Str.ofString "/")))) (.blt .str (.cons (.idx (.idx (.var 0) (.cst (.int 1))) (.cst (.int 1))) .nil))))] [], .iff (.cmp .eq (.idx (.var 0) (.cst (.int 0))) (.cst (.str (Str.ofString "size")))) [.ret (.bin .add (.bin .add (.cst (.str (Str.ofString "|"))) (.call 44 (.cons (.idx (.var 0) (.cst (.int 1))) .nil))) (.cst (.str (Str.ofString "|"))))] [], .iff (.cmp .eq (.idx (.var 0) (.cst (.int 0))) (.cst (.str (Str.ofString "times")))) [.ret (.bin .add (.bin .add (.bin .add (.bin .add (.cst (.str (Str.ofString "("))) (.call 44 (.cons (.tup (.cons (.cst (.str (Str.ofString "num"))) (.cons (.idx (.var 0) (.cst (.int 1))) .nil))) .nil))) (.cst (.str (Str.ofString " * ")))) (.call 44 (.cons (.idx (.var 0) (.cst (.int 2))) .nil))) (.cst (.str (Str.ofString ")"))))] [], .stk, .ret (.bin .add (.bin .add (.bin .add (.bin .add (.cst (.str (Str.ofString "("))) (.call 44 (.cons (.idx (.var 0) (.cst (.int 1))) .nil))) (.var 1)) (.call 44 (.cons (.idx (.var 0) (.cst (.int 2))) .nil))) (.cst (.str (Str.ofString ")"))))]⟩
def fn_minus : Fn := ⟨2, 2, [.ret (.call 2 (.cons (.bin .sub (.bin .mul (.idx (.var 0) (.cst (.int 0))) (.idx (.var 1) (.cst (.int 1)))) (.bin .mul (.idx (.var 1) (.cst (.int 0))) (.idx (.var 0) (.cst (.int 1))))) (.cons (.bin .mul (.idx (.var 0) (.cst (.int 1))) (.idx (.var 1) (.cst (.int 1)))) .nil)))]⟩
def fn_middle : Fn := ⟨2, 2, [.ret (.call 4 (.cons (.call 3 (.cons (.var 0) (.cons (.var 1) .nil))) (.cons (.tup (.cons (.cst (.int 1)) (.cons (.cst (.int 2)) .nil))) .nil)))]⟩
def fn_ordered : Fn := ⟨2, 7, [.stk, .asg (.n 5) (.comp 3 (.seq (.var 1)) (.comp 4 (.seq (.var 3)) (.bin .fdiv (.bin .mul (.bin .mul (.idx (.var 4) (.cst (.int 0))) (.var 2)) (.var 2)) (.idx (.var 4) (.cst (.int 1)))))), .stk]⟩
def fn_rising : Fn := ⟨1, 4, [.alloc 1 .nil, .fr (.n 2) (.seq (.call 47 (.cons (.var 0) (.cons (.comp 3 (.seq (.var 0)) (.tup (.cons (.var 3) .nil))) .nil)))) [.iff (.or (.cmpC .eq 1 (.lst .nil)) (.cmp .ne (.idxC 1 (.neg (.cst (.int 1)))) (.var 2))) [.app 1 (.var 2)] []], .retC 1]⟩
def fn_count_parts : Fn := ⟨1, 1, [.expr (.call 14 (.cons (.var 0) .nil)), .ret (.call 11 (.cons (.var 0) .nil))]⟩
def fn_count_cuts : Fn := ⟨1, 1, [.expr (.call 14 (.cons (.var 0) .nil)), .ret (.call 12 (.cons (.var 0) .nil))]⟩
def fn_line_of : Fn := ⟨1, 5, [.iff (.and (.cmp .eq (.idx (.idx (.var 0) (.cst (.int 0))) (.cst (.int 0))) (.cst (.int 0))) (.cmp .eq (.idx (.idx (.var 0) (.cst (.int 1))) (.cst (.int 0))) (.cst (.int 0)))) [.ret (.cst .none)] [], .asg (.n 1) (.bin .mul (.bin .mul (.idx (.idx (.var 0) (.cst (.int 0))) (.cst (.int 1))) (.idx (.idx (.var 0) (.cst (.int 1))) (.cst (.int 1)))) (.idx (.idx (.var 0) (.cst (.int 2))) (.cst (.int 1)))), .asg (.n 2) (.comp 3 (.seq (.var 0)) (.bin .mul (.idx (.var 3) (.cst (.int 0))) (.bin .fdiv (.var 1) (.idx (.var 3) (.cst (.int 1)))))), .asg (.n 4) (.call 1 (.cons (.call 1 (.cons (.blt .abs (.cons (.idx (.var 2) (.cst (.int 0))) .nil)) (.cons (.blt .abs (.cons (.idx (.var 2) (.cst (.int 1))) .nil)) .nil))) (.cons (.blt .abs (.cons (.idx (.var 2) (.cst (.int 2))) .nil)) .nil))), .iff (.or (.cmp .lt (.idx (.var 2) (.cst (.int 0))) (.cst (.int 0))) (.and (.cmp .eq (.idx (.var 2) (.cst (.int 0))) (.cst (.int 0))) (.cmp .lt (.idx (.var 2) (.cst (.int 1))) (.cst (.int 0))))) [.asg (.n 4) (.neg (.var 4))] [], .ret (.blt .tuple (.cons (.comp 3 (.seq (.var 2)) (.bin .fdiv (.var 3) (.var 4))) .nil))]⟩
def fn_is_upright : Fn := ⟨1, 1, [.ret (.cmp .eq (.idx (.var 0) (.cst (.int 1))) (.cst (.int 0)))]⟩
def fn_height : Fn := ⟨2, 2, [.ret (.call 2 (.cons (.bin .sub (.bin .mul (.neg (.idx (.var 0) (.cst (.int 0)))) (.idx (.var 1) (.cst (.int 0)))) (.bin .mul (.idx (.var 0) (.cst (.int 2))) (.idx (.var 1) (.cst (.int 1))))) (.cons (.bin .mul (.idx (.var 0) (.cst (.int 1))) (.idx (.var 1) (.cst (.int 1)))) .nil)))]⟩
def fn_crossing : Fn := ⟨2, 4, [.asg (.n 2) (.bin .sub (.bin .mul (.idx (.var 0) (.cst (.int 0))) (.idx (.var 1) (.cst (.int 1)))) (.bin .mul (.idx (.var 1) (.cst (.int 0))) (.idx (.var 0) (.cst (.int 1))))), .iff (.cmp .eq (.var 2) (.cst (.int 0))) [.ret (.cst .none)] [], .asg (.n 3) (.call 2 (.cons (.bin .sub (.bin .mul (.idx (.var 0) (.cst (.int 1))) (.idx (.var 1) (.cst (.int 2)))) (.bin .mul (.idx (.var 1) (.cst (.int 1))) (.idx (.var 0) (.cst (.int 2))))) (.cons (.var 2) .nil))), .ret (.tup (.cons (.var 3) (.cons (.call 2 (.cons (.bin .sub (.bin .mul (.idx (.var 0) (.cst (.int 2))) (.idx (.var 1) (.cst (.int 0)))) (.bin .mul (.idx (.var 1) (.cst (.int 2))) (.idx (.var 0) (.cst (.int 0))))) (.cons (.var 2) .nil))) .nil)))]⟩
def fn_places_of : Fn := ⟨1, 6, [.asg (.n 1) (.compIf 2 (.seq (.var 0)) (.call 52 (.cons (.var 2) .nil)) (.call 2 (.cons (.neg (.idx (.var 2) (.cst (.int 2)))) (.cons (.idx (.var 2) (.cst (.int 0))) .nil)))), .fr (.t [3, 2]) (.enum (.var 0)) [.fr (.n 4) (.seq (.slice (.var 0) (.some (.bin .add (.var 3) (.cst (.int 1)))) .none)) [.iff (.and (.not (.call 52 (.cons (.var 2) .nil))) (.not (.call 52 (.cons (.var 4) .nil)))) [.asg (.n 5) (.call 54 (.cons (.var 2) (.cons (.var 4) .nil))), .asg (.n 1) (.bin .add (.var 1) (.ite (.cmp .isnn (.var 5) (.cst .none)) (.lst (.cons (.idx (.var 5) (.cst (.int 0))) .nil)) (.lst .nil)))] []]], .ret (.call 48 (.cons (.var 1) .nil))]⟩
def fn_between : Fn := ⟨2, 2, [.iff (.and (.cmp .isn (.var 0) (.cst .none)) (.cmp .isn (.var 1) (.cst .none))) [.ret (.tup (.cons (.cst (.int 0)) (.cons (.cst (.int 1)) .nil)))] [], .iff (.cmp .isn (.var 0) (.cst .none)) [.ret (.call 45 (.cons (.var 1) (.cons (.tup (.cons (.cst (.int 1)) (.cons (.cst (.int 1)) .nil))) .nil)))] [], .ret (.ite (.cmp .isn (.var 1) (.cst .none)) (.call 3 (.cons (.var 0) (.cons (.tup (.cons (.cst (.int 1)) (.cons (.cst (.int 1)) .nil))) .nil))) (.call 46 (.cons (.var 0) (.cons (.var 1) .nil))))]⟩
def fn_sorted_lines : Fn := ⟨2, 4, [.asg (.n 2) (.compIf 3 (.seq (.var 0)) (.not (.call 52 (.cons (.var 3) .nil))) (.var 3)), .ret (.call 47 (.cons (.var 2) (.cons (.comp 3 (.seq (.var 2)) (.tup (.cons (.call 53 (.cons (.var 3) (.cons (.var 1) .nil))) .nil))) .nil)))]⟩
def fn_strips_of : Fn := ⟨1, 6, [.asg (.n 1) (.bin .add (.bin .add (.lst (.cons (.cst .none) .nil)) (.call 55 (.cons (.var 0) .nil))) (.lst (.cons (.cst .none) .nil))), .alloc 2 .nil, .fr (.n 3) (.rng1 (.bin .sub (.blt .len (.cons (.var 1) .nil)) (.cst (.int 1)))) [.par 4 5 (.idx (.var 1) (.var 3)) (.idx (.var 1) (.bin .add (.var 3) (.cst (.int 1)))), .app 2 (.tup (.cons (.var 4) (.cons (.var 5) (.cons (.call 57 (.cons (.var 0) (.cons (.call 56 (.cons (.var 4) (.cons (.var 5) .nil))) .nil))) .nil))))], .retC 2]⟩
def fn_points_in : Fn := ⟨1, 5, [.asg (.n 1) (.call 56 (.cons (.idx (.var 0) (.cst (.int 0))) (.cons (.idx (.var 0) (.cst (.int 1))) .nil))), .asg (.n 2) (.bin .add (.bin .add (.lst (.cons (.cst .none) .nil)) (.comp 3 (.seq (.idx (.var 0) (.cst (.int 2)))) (.call 53 (.cons (.var 3) (.cons (.var 1) .nil))))) (.lst (.cons (.cst .none) .nil))), .ret (.comp 4 (.rng1 (.bin .sub (.blt .len (.cons (.var 2) .nil)) (.cst (.int 1)))) (.tup (.cons (.var 1) (.cons (.call 56 (.cons (.idx (.var 2) (.var 4)) (.cons (.idx (.var 2) (.bin .add (.var 4) (.cst (.int 1)))) .nil))) .nil))))]⟩
def fn_all_points : Fn := ⟨1, 3, [.asg (.n 1) (.lst .nil), .fr (.n 2) (.seq (.call 58 (.cons (.var 0) .nil))) [.asg (.n 1) (.bin .add (.var 1) (.call 59 (.cons (.var 2) .nil)))], .ret (.var 1)]⟩
def fn_functions_in : Fn := ⟨2, 3, [.ret (.comp 2 (.seq (.call 59 (.cons (.var 1) .nil))) (.call 20 (.cons (.var 0) (.cons (.var 2) .nil))))]⟩
def fn_level_functions : Fn := ⟨3, 4, [.ret (.tup (.cons (.comp 3 (.seq (.idx (.var 0) (.cst (.int 2)))) (.call 53 (.cons (.var 3) (.cons (.var 2) .nil)))) (.cons (.var 1) .nil)))]⟩
def fn_function_at : Fn := ⟨3, 6, [.asg (.n 3) (.idx (.var 1) (.cst (.int 0))), .fr (.t [4, 5]) (.enum (.var 0)) [.iff (.call 5 (.cons (.var 5) (.cons (.var 2) .nil))) [.asg (.n 3) (.idx (.var 1) (.bin .add (.var 4) (.cst (.int 1))))] []], .ret (.var 3)]⟩
def fn_upright_stretches : Fn := ⟨4, 9, [.asg (.n 4) (.bin .add (.bin .add (.lst (.cons (.cst .none) .nil)) (.call 48 (.cons (.bin .add (.idx (.var 2) (.cst (.int 0))) (.idx (.var 3) (.cst (.int 0)))) .nil))) (.lst (.cons (.cst .none) .nil))), .fr (.n 5) (.rng1 (.bin .sub (.blt .len (.cons (.var 4) .nil)) (.cst (.int 1)))) [.asg (.n 6) (.call 56 (.cons (.idx (.var 4) (.var 5)) (.cons (.idx (.var 4) (.bin .add (.var 5) (.cst (.int 1)))) .nil))), .par 7 8 (.call 63 (.cons (.idx (.var 2) (.cst (.int 0))) (.cons (.idx (.var 2) (.cst (.int 1))) (.cons (.var 6) .nil)))) (.call 63 (.cons (.idx (.var 3) (.cst (.int 0))) (.cons (.idx (.var 3) (.cst (.int 1))) (.cons (.var 6) .nil)))), .iff (.cmp .ne (.var 7) (.var 8)) [.stk] []]]⟩
def fn_point_on : Fn := ⟨2, 2, [.ret (.ite (.cmp .isn (.var 1) (.cst .none)) (.cst .none) (.tup (.cons (.var 1) (.cons (.call 53 (.cons (.var 0) (.cons (.var 1) .nil))) .nil))))]⟩
def fn_border_key : Fn := ⟨1, 4, [.asg (.n 1) (.blt .tuple (.cons (.comp 2 (.seq (.idx (.var 0) (.cst (.int 0)))) (.tup (.cons (.var 2) (.cons (.cst (.int 1)) .nil)))) .nil)), .asg (.n 3) (.ite (.cmp .isn (.idx (.var 0) (.cst (.int 1))) (.cst .none)) (.tup (.cons (.tup (.cons (.cst (.int 0)) (.cons (.cst (.int 1)) .nil))) (.cons (.tup (.cons (.cst (.int 0)) (.cons (.cst (.int 1)) .nil))) (.cons (.tup (.cons (.cst (.int 0)) (.cons (.cst (.int 1)) .nil))) .nil)))) (.bin .add (.tup (.cons (.tup (.cons (.cst (.int 1)) (.cons (.cst (.int 1)) .nil))) .nil)) (.idx (.var 0) (.cst (.int 1))))), .ret (.bin .add (.var 1) (.var 3))]⟩
def fn_borders_of : Fn := ⟨2, 23, [.stk, .fr (.n 6) (.seq (.call 58 (.cons (.var 1) .nil))) [.asg (.n 7) (.call 61 (.cons (.var 0) (.cons (.var 6) .nil))), .asg (.n 5) (.ite (.cmp .isn (.var 5) (.cst .none)) (.idx (.var 7) (.cst (.int 0))) (.var 5)), .fr (.t [8, 9]) (.enum (.idx (.var 6) (.cst (.int 2)))) [.iff (.cmp .ne (.idx (.var 7) (.var 8)) (.idx (.var 7) (.bin .add (.var 8) (.cst (.int 1))))) [.stk] []], .iff (.cmp .isnn (.var 4) (.cst .none)) [.asg (.n 10) (.compT (.t [11, 12]) (.seq (.tup (.cons (.var 4) (.cons (.tup (.cons (.var 6) (.cons (.var 7) .nil))) .nil)))) (.call 62 (.cons (.var 11) (.cons (.var 12) (.cons (.idx (.var 6) (.cst (.int 0))) .nil))))), .expr (.call 64 (.cons (.var 3) (.cons (.idx (.var 6) (.cst (.int 0))) (.cons (.idx (.var 10) (.cst (.int 0))) (.cons (.idx (.var 10) (.cst (.int 1))) .nil)))))] [], .asg (.n 4) (.tup (.cons (.var 6) (.cons (.var 7) .nil)))], .alloc 13 .nil, .stk, .stk, .frz 13, .ret (.tup (.cons (.var 5) (.cons (.call 47 (.cons (.var 13) (.cons (.comp 11 (.seq (.var 13)) (.call 66 (.cons (.var 11) .nil))) .nil))) .nil)))]⟩
def fn_unequal_lines : Fn := ⟨2, 7, [.alloc 2 .nil, .fr (.n 3) (.seq (.call 60 (.cons (.var 1) .nil))) [.asg (.n 4) (.call 20 (.cons (.idx (.var 0) (.cst (.int 1))) (.cons (.var 3) .nil))), .asg (.n 5) (.ite (.cmp .eq (.idx (.var 0) (.cst (.int 0))) (.cst (.str (Str.ofString "size")))) (.tup (.cons (.tup (.cons (.cst (.int 0)) (.cons (.cst (.int 1)) .nil))) (.cons (.tup (.cons (.cst (.int 0)) (.cons (.cst (.int 1)) .nil))) (.cons (.tup (.cons (.cst (.int 0)) (.cons (.cst (.int 1)) .nil))) .nil)))) (.call 20 (.cons (.idx (.var 0) (.cst (.int 2))) (.cons (.var 3) .nil)))), .asg (.n 6) (.call 51 (.cons (.call 17 (.cons (.var 4) (.cons (.call 18 (.cons (.var 5) (.cons (.tup (.cons (.neg (.cst (.int 1))) (.cons (.cst (.int 1)) .nil))) .nil))) .nil))) .nil)), .iff (.and (.cmp .isnn (.var 6) (.cst .none)) (.inC true (.var 6) 2)) [.app 2 (.var 6)] []], .retC 2]⟩
def fn_joined : Fn := ⟨1, 1, [.stk]⟩
def fn_lines_of : Fn := ⟨1, 4, [.asg (.n 1) (.lst .nil), .fr (.n 2) (.seq (.call 10 (.cons (.var 0) .nil))) [.asg (.n 1) (.bin .add (.var 1) (.call 70 (.cons (.var 2) .nil)))], .asg (.n 1) (.call 69 (.cons (.var 1) .nil)), .iff (.cmp .inn (.idx (.var 0) (.cst (.int 0))) (.tup (.cons (.cst (.str (Str.ofString "more"))) (.cons (.cst (.str (Str.ofString "less"))) (.cons (.cst (.str (Str.ofString "size"))) .nil))))) [.asg (.n 1) (.call 69 (.cons (.bin .add (.var 1) (.call 68 (.cons (.var 0) (.cons (.var 1) .nil)))) .nil))] [], .iff (.cmp .inn (.idx (.var 0) (.cst (.int 0))) (.tup (.cons (.cst (.str (Str.ofString "num"))) (.cons (.cst (.str (Str.ofString "in"))) (.cons (.cst (.str (Str.ofString "times"))) .nil))))) [.ret (.ite (.and (.cmp .eq (.idx (.var 0) (.cst (.int 0))) (.cst (.str (Str.ofString "times")))) (.cmp .ne (.idx (.var 0) (.cst (.int 1))) (.tup (.cons (.cst (.int 0)) (.cons (.cst (.int 1)) .nil))))) (.var 1) (.lst .nil))] [], .ret (.call 69 (.cons (.comp 3 (.seq (.idx (.call 67 (.cons (.var 0) (.cons (.var 1) .nil))) (.cst (.int 1)))) (.idx (.var 3) (.cst (.int 0)))) .nil))]⟩
def fn_form_of : Fn := ⟨1, 3, [.asg (.t [1, 2]) (.call 67 (.cons (.var 0) (.cons (.call 70 (.cons (.var 0) .nil)) .nil))), .ret (.tup (.cons (.var 1) (.cons (.blt .tuple (.cons (.var 2) .nil)) .nil)))]⟩
def fn_need_two : Fn := ⟨2, 2, [.expr (.call 14 (.cons (.var 0) .nil)), .expr (.call 14 (.cons (.var 1) .nil))]⟩
def fn_same : Fn := ⟨2, 2, [.expr (.call 72 (.cons (.var 0) (.cons (.var 1) .nil))), .ret (.cmp .eq (.call 71 (.cons (.var 0) .nil)) (.call 71 (.cons (.var 1) .nil)))]⟩
def fn__law_parts : Fn := ⟨1, 3, [.asg (.n 1) (.lst (.cons (.var 0) .nil)), .fr (.n 2) (.seq (.slice (.var 0) (.some (.cst (.int 1))) .none)) [.iff (.and (.isi (.var 2) .tuple) (.isi (.idx (.var 2) (.cst (.int 0))) .str)) [.asg (.n 1) (.bin .add (.var 1) (.call 74 (.cons (.var 2) .nil)))] []], .ret (.var 1)]⟩
def fn__law_bad_terms : Fn := ⟨1, 4, [.asg (.n 1) (.lst (.cons (.cst .none) (.cons (.cst (.int 5)) (.cons (.tup .nil) (.cons (.cst (.str (Str.ofString "x"))) (.cons (.blt .list (.cons (.var 0) .nil)) (.cons (.tup (.cons (.cst (.str (Str.ofString "in"))) (.cons (.cst (.int 2)) .nil))) (.cons (.tup (.cons (.cst (.str (Str.ofString "in"))) (.cons (.cst (.bool true)) .nil))) (.cons (.tup (.cons (.cst (.str (Str.ofString "in"))) (.cons (.neg (.cst (.int 1))) .nil))) (.cons (.tup (.cons (.cst (.str (Str.ofString "in"))) .nil)) (.cons (.tup (.cons (.cst (.str (Str.ofString "num"))) (.cons (.cst (.int 3)) .nil))) .nil))))))))))), .asg (.n 1) (.bin .add (.var 1) (.lst (.cons (.tup (.cons (.cst (.str (Str.ofString "num"))) (.cons (.tup (.cons (.cst (.int 2)) (.cons (.cst (.int 4)) .nil))) .nil))) .nil))), .asg (.n 1) (.bin .add (.var 1) (.lst (.cons (.tup (.cons (.cst (.str (Str.ofString "num"))) (.cons (.tup (.cons (.cst (.int 100)) (.cons (.cst (.int 1)) .nil))) .nil))) (.cons (.tup (.cons (.cst (.str (Str.ofString "num"))) (.cons (.tup (.cons (.cst (.int 1)) (.cons (.cst (.int 100)) .nil))) .nil))) (.cons (.tup (.cons (.cst (.str (Str.ofString "num"))) (.cons (.tup (.cons (.cst (.int 1)) (.cons (.cst (.int 0)) .nil))) .nil))) (.cons (.tup (.cons (.cst (.str (Str.ofString "add"))) (.cons (.var 0) .nil))) .nil)))))), .asg (.n 1) (.bin .add (.var 1) (.lst (.cons (.tup (.cons (.cst (.str (Str.ofString "add"))) (.cons (.var 0) (.cons (.var 0) (.cons (.var 0) .nil))))) .nil))), .asg (.n 1) (.bin .add (.var 1) (.lst (.cons (.tup (.cons (.cst (.str (Str.ofString "times"))) (.cons (.var 0) (.cons (.tup (.cons (.cst (.int 1)) (.cons (.cst (.int 1)) .nil))) .nil)))) (.cons (.tup (.cons (.cst (.str (Str.ofString "times"))) (.cons (.cst (.int 2)) (.cons (.var 0) .nil)))) (.cons (.tup (.cons (.cst (.str (Str.ofString "size"))) (.cons (.var 0) (.cons (.var 0) .nil)))) (.cons (.tup (.cons (.cst (.str (Str.ofString "max"))) (.cons (.var 0) (.cons (.var 0) .nil)))) .nil)))))), .asg (.n 1) (.bin .add (.var 1) (.lst (.cons (.tup (.cons (.cst (.str (Str.ofString "size"))) (.cons (.cst .none) .nil))) .nil))), .asg (.n 1) (.bin .add (.var 1) (.lst (.cons (.tup (.cons (.cst (.str (Str.ofString "times"))) (.cons (.tup (.cons (.cst (.int 1)) (.cons (.neg (.cst (.int 1))) .nil))) (.cons (.var 0) .nil)))) (.cons (.tup (.cons (.cst (.str (Str.ofString "num"))) (.cons (.lst (.cons (.cst (.int 1)) (.cons (.cst (.int 1)) .nil))) .nil))) (.cons (.tup (.cons (.cst (.str (Str.ofString "more"))) (.cons (.var 0) (.cons (.tup (.cons (.cst (.str (Str.ofString "in"))) (.cons (.cst (.str (Str.ofString "0"))) .nil))) .nil)))) (.cons (.tup (.cons (.cst (.int 1)) (.cons (.cst (.int 2)) .nil))) .nil)))))), .asg (.n 2) (.tup (.cons (.cst (.str (Str.ofString "in"))) (.cons (.cst (.int 0)) .nil))), .fr (.n 3) (.rng1 (.cst (.int 20))) [.asg (.n 2) (.tup (.cons (.cst (.str (Str.ofString "times"))) (.cons (.tup (.cons (.cst (.int 1)) (.cons (.cst (.int 1)) .nil))) (.cons (.var 2) .nil))))], .ret (.bin .add (.var 1) (.lst (.cons (.var 2) .nil)))]⟩
def fn_form : Fn := ⟨1, 1, [.expr (.call 14 (.cons (.var 0) .nil)), .ret (.call 71 (.cons (.var 0) .nil))]⟩
def fn__law_minus : Fn := ⟨2, 2, [.ret (.call 29 (.cons (.bin .sub (.bin .mul (.idx (.var 0) (.cst (.int 0))) (.idx (.var 1) (.cst (.int 1)))) (.bin .mul (.idx (.var 1) (.cst (.int 0))) (.idx (.var 0) (.cst (.int 1))))) (.cons (.bin .mul (.idx (.var 0) (.cst (.int 1))) (.idx (.var 1) (.cst (.int 1)))) .nil)))]⟩
def fn__law_of : Fn := ⟨2, 2, [.ret (.call 30 (.cons (.call 30 (.cons (.call 31 (.cons (.idx (.var 0) (.cst (.int 0))) (.cons (.idx (.var 1) (.cst (.int 0))) .nil))) (.cons (.call 31 (.cons (.idx (.var 0) (.cst (.int 1))) (.cons (.idx (.var 1) (.cst (.int 1))) .nil))) .nil))) (.cons (.idx (.var 0) (.cst (.int 2))) .nil)))]⟩
def fn__law_on_line : Fn := ⟨2, 3, [.ret (.call 78 (.cons (.blt .tuple (.cons (.comp 2 (.seq (.var 0)) (.tup (.cons (.var 2) (.cons (.cst (.int 1)) .nil)))) .nil)) (.cons (.var 1) .nil)))]⟩
def fn__law_is_on : Fn := ⟨2, 6, [.asg (.t [2, 3, 4]) (.slice (.var 0) .none (.some (.cst (.int 3)))), .iff (.cmp .ne (.call 79 (.cons (.var 2) (.cons (.var 1) .nil))) (.tup (.cons (.cst (.int 0)) (.cons (.cst (.int 1)) .nil)))) [.ret (.cst (.bool false))] [], .asg (.n 5) (.ite (.cmp .eq (.idx (.var 2) (.cst (.int 1))) (.cst (.int 0))) (.cst (.int 1)) (.cst (.int 0))), .iff (.and (.cmp .isnn (.var 3) (.cst .none)) (.call 32 (.cons (.idx (.var 1) (.var 5)) (.cons (.idx (.var 3) (.var 5)) .nil)))) [.ret (.cst (.bool false))] [], .ret (.or (.cmp .isn (.var 4) (.cst .none)) (.not (.call 32 (.cons (.idx (.var 4) (.var 5)) (.cons (.idx (.var 1) (.var 5)) .nil)))))]⟩
def fn__law_between : Fn := ⟨3, 4, [.ret (.blt .tuple (.cons (.comp 3 (.rng1 (.cst (.int 2))) (.call 30 (.cons (.idx (.var 0) (.var 3)) (.cons (.call 31 (.cons (.call 77 (.cons (.idx (.var 1) (.var 3)) (.cons (.idx (.var 0) (.var 3)) .nil))) (.cons (.var 2) .nil))) .nil)))) .nil))]⟩
def fn__law_shares : Fn := ⟨3, 13, [.alloc 3 (.cons (.tup (.cons (.cst (.int 0)) (.cons (.cst (.int 1)) .nil))) (.cons (.tup (.cons (.cst (.int 1)) (.cons (.cst (.int 1)) .nil))) .nil)), .fr (.n 4) (.seq (.var 0)) [.par 5 6 (.call 79 (.cons (.idx (.var 4) (.cst (.int 0))) (.cons (.var 1) .nil))) (.call 79 (.cons (.idx (.var 4) (.cst (.int 0))) (.cons (.var 2) .nil))), .iff (.cmp .ne (.var 5) (.var 6)) [.asg (.n 7) (.call 77 (.cons (.var 5) (.cons (.var 6) .nil))), .asg (.n 8) (.call 29 (.cons (.bin .mul (.idx (.var 5) (.cst (.int 0))) (.idx (.var 7) (.cst (.int 1)))) (.cons (.bin .mul (.idx (.var 5) (.cst (.int 1))) (.idx (.var 7) (.cst (.int 0)))) .nil))), .asg (.n 9) (.and (.call 32 (.cons (.tup (.cons (.cst (.int 0)) (.cons (.cst (.int 1)) .nil))) (.cons (.var 8) .nil))) (.call 32 (.cons (.var 8) (.cons (.tup (.cons (.cst (.int 1)) (.cons (.cst (.int 1)) .nil))) .nil)))), .iff (.and (.var 9) (.call 80 (.cons (.var 4) (.cons (.call 81 (.cons (.var 1) (.cons (.var 2) (.cons (.var 8) .nil)))) .nil)))) [.app 3 (.var 8)] []] []], .frz 3, .asg (.n 10) (.blt .max1 (.cons (.comp 8 (.seq (.var 3)) (.idx (.var 8) (.cst (.int 1)))) .nil)), .stk, .fr (.n 8) (.seq (.var 3)) [.stk], .stk]⟩
def fn__law_inner : Fn := ⟨2, 11, [.asg (.t [2, 3, 4]) (.slice (.var 1) .none (.some (.cst (.int 3)))), .asg (.n 5) (.ite (.cmp .eq (.idx (.var 2) (.cst (.int 1))) (.cst (.int 0))) (.cst (.int 1)) (.cst (.int 0))), .asg (.n 6) (.bin .add (.cst (.int 1)) (.call 25 (.cons (.cv 0) (.cons (.cst (.int 1000002)) .nil)))), .iff (.and (.cmp .isn (.var 3) (.cst .none)) (.cmp .isn (.var 4) (.cst .none))) [.asg (.n 7) (.call 29 (.cons (.var 6) (.cons (.cst (.int 1000003)) .nil)))] [.iff (.cmp .isn (.var 3) (.cst .none)) [.asg (.n 7) (.call 77 (.cons (.idx (.var 4) (.var 5)) (.cons (.call 29 (.cons (.var 6) (.cons (.cst (.int 1000003)) .nil))) .nil)))] [.iff (.cmp .isn (.var 4) (.cst .none)) [.asg (.n 7) (.call 30 (.cons (.idx (.var 3) (.var 5)) (.cons (.call 29 (.cons (.var 6) (.cons (.cst (.int 1000003)) .nil))) .nil)))] [.asg (.n 7) (.call 30 (.cons (.idx (.var 3) (.var 5)) (.cons (.call 31 (.cons (.call 77 (.cons (.idx (.var 4) (.var 5)) (.cons (.idx (.var 3) (.var 5)) .nil))) (.cons (.tup (.cons (.var 6) (.cons (.cst (.int 1000003)) .nil))) .nil))) .nil)))]]], .asg (.t [8, 9, 10]) (.var 2), .iff (.cmp .eq (.var 9) (.cst (.int 0))) [.ret (.tup (.cons (.call 29 (.cons (.neg (.var 10)) (.cons (.var 8) .nil))) (.cons (.var 7) .nil)))] [], .ret (.tup (.cons (.var 7) (.cons (.call 29 (.cons (.bin .sub (.bin .mul (.neg (.var 8)) (.idx (.var 7) (.cst (.int 0)))) (.bin .mul (.var 10) (.idx (.var 7) (.cst (.int 1))))) (.cons (.bin .mul (.var 9) (.idx (.var 7) (.cst (.int 1)))) .nil))) .nil)))]⟩
def fn__law_apart : Fn := ⟨2, 3, [.asg (.n 2) (.ite (.cmp .eq (.idx (.idx (.var 0) (.cst (.int 0))) (.cst (.int 1))) (.cst (.int 0))) (.cst (.int 1)) (.cst (.int 0))), .iff (.and (.cmp .isnn (.idx (.var 0) (.cst (.int 2))) (.cst .none)) (.and (.cmp .isnn (.idx (.var 1) (.cst (.int 1))) (.cst .none)) (.call 32 (.cons (.idx (.idx (.var 0) (.cst (.int 2))) (.var 2)) (.cons (.idx (.idx (.var 1) (.cst (.int 1))) (.var 2)) .nil))))) [.ret (.cst (.bool true))] [], .ret (.and (.cmp .isnn (.idx (.var 1) (.cst (.int 2))) (.cst .none)) (.and (.cmp .isnn (.idx (.var 0) (.cst (.int 1))) (.cst .none)) (.call 32 (.cons (.idx (.idx (.var 1) (.cst (.int 2))) (.var 2)) (.cons (.idx (.idx (.var 0) (.cst (.int 1))) (.var 2)) .nil)))))]⟩
def fn__law_ahead : Fn := ⟨2, 2, [.ret (.or (.call 32 (.cons (.idx (.var 0) (.cst (.int 0))) (.cons (.idx (.var 1) (.cst (.int 0))) .nil))) (.and (.cmp .eq (.idx (.var 0) (.cst (.int 0))) (.idx (.var 1) (.cst (.int 0)))) (.call 32 (.cons (.idx (.var 0) (.cst (.int 1))) (.cons (.idx (.var 1) (.cst (.int 1))) .nil)))))]⟩
def fn_size : Fn := ⟨1, 1, [.ret (.tup (.cons (.blt .abs (.cons (.idx (.var 0) (.cst (.int 0))) .nil)) (.cons (.idx (.var 0) (.cst (.int 1))) .nil)))]⟩
def fn_greatest : Fn := ⟨1, 3, [.asg (.n 1) (.idx (.var 0) (.cst (.int 0))), .fr (.n 2) (.seq (.slice (.var 0) (.some (.cst (.int 1))) .none)) [.asg (.n 1) (.ite (.call 5 (.cons (.var 1) (.cons (.var 2) .nil))) (.var 2) (.var 1))], .ret (.var 1)]⟩
def fn_more_points : Fn := ⟨2, 7, [.asg (.n 2) (.call 56 (.cons (.idx (.var 0) (.cst (.int 0))) (.cons (.idx (.var 0) (.cst (.int 1))) .nil))), .alloc 3 (.cons (.idx (.call 59 (.cons (.var 0) .nil)) (.var 1)) .nil), .asg (.n 4) (.bin .add (.bin .add (.lst (.cons (.cst .none) .nil)) (.comp 5 (.seq (.idx (.var 0) (.cst (.int 2)))) (.call 53 (.cons (.var 5) (.cons (.var 2) .nil))))) (.lst (.cons (.cst .none) .nil))), .app 3 (.tup (.cons (.var 2) (.cons (.call 56 (.cons (.idx (.idxC 3 (.cst (.int 0))) (.cst (.int 1))) (.cons (.idx (.var 4) (.bin .add (.var 1) (.cst (.int 1)))) .nil))) .nil))), .asg (.n 6) (.call 56 (.cons (.var 2) (.cons (.idx (.var 0) (.cst (.int 1))) .nil))), .asg (.n 4) (.bin .add (.bin .add (.lst (.cons (.cst .none) .nil)) (.comp 5 (.seq (.idx (.var 0) (.cst (.int 2)))) (.call 53 (.cons (.var 5) (.cons (.var 6) .nil))))) (.lst (.cons (.cst .none) .nil))), .ret (.binC .add 3 (.lst (.cons (.tup (.cons (.var 6) (.cons (.call 56 (.cons (.idx (.var 4) (.var 1)) (.cons (.idx (.var 4) (.bin .add (.var 1) (.cst (.int 1)))) .nil))) .nil))) .nil)))]⟩
def fn_pieces_of : Fn := ⟨1, 3, [.stk, .ret (.call 47 (.cons (.var 1) (.cons (.var 1) .nil)))]⟩
def fn_pieces : Fn := ⟨1, 1, [.expr (.call 14 (.cons (.var 0) .nil)), .ret (.blt .tuple (.cons (.call 89 (.cons (.var 0) .nil)) .nil))]⟩
def fn_parting_of : Fn := ⟨2, 5, [.fr (.n 2) (.seq (.call 58 (.cons (.call 69 (.cons (.bin .add (.call 70 (.cons (.var 0) .nil)) (.call 70 (.cons (.var 1) .nil))) .nil)) .nil))) [.fr (.n 3) (.rng1 (.blt .len (.cons (.call 59 (.cons (.var 2) .nil)) .nil))) [.fr (.n 4) (.seq (.call 88 (.cons (.var 2) (.cons (.var 3) .nil)))) [.iff (.cmp .ne (.call 21 (.cons (.var 0) (.cons (.var 4) .nil))) (.call 21 (.cons (.var 1) (.cons (.var 4) .nil)))) [.ret (.var 4)] []]]], .ret (.cst .none)]⟩
def fn_parting : Fn := ⟨2, 2, [.expr (.call 72 (.cons (.var 0) (.cons (.var 1) .nil))), .ret (.call 91 (.cons (.var 0) (.cons (.var 1) .nil)))]⟩
def fn_is_up : Fn := ⟨1, 5, [.parV [1, 2] (.cons (.idx (.var 0) (.cst (.int 3))) (.cons (.idx (.var 0) (.cst (.int 4))) .nil)), .asg (.n 3) (.blt .tuple (.cons (.comp 4 (.rng1 (.cst (.int 3))) (.call 45 (.cons (.idx (.var 1) (.var 4)) (.cons (.idx (.var 2) (.var 4)) .nil)))) .nil)), .iff (.cmp .eq (.idx (.idx (.var 0) (.cst (.int 0))) (.cst (.int 1))) (.cst (.int 0))) [.ret (.call 5 (.cons (.idx (.var 3) (.cst (.int 0))) (.cons (.tup (.cons (.cst (.int 0)) (.cons (.cst (.int 1)) .nil))) .nil)))] [], .ret (.or (.call 5 (.cons (.tup (.cons (.cst (.int 0)) (.cons (.cst (.int 1)) .nil))) (.cons (.idx (.var 3) (.cst (.int 1))) .nil))) (.and (.cmp .eq (.idx (.var 3) (.cst (.int 1))) (.tup (.cons (.cst (.int 0)) (.cons (.cst (.int 1)) .nil)))) (.call 5 (.cons (.tup (.cons (.cst (.int 0)) (.cons (.cst (.int 1)) .nil))) (.cons (.idx (.var 3) (.cst (.int 0))) .nil)))))]⟩
def fn_is_upward : Fn := ⟨1, 2, [.expr (.call 14 (.cons (.var 0) .nil)), .ret (.blt .all (.cons (.comp 1 (.seq (.idx (.call 71 (.cons (.var 0) .nil)) (.cst (.int 1)))) (.call 93 (.cons (.var 1) .nil))) .nil))]⟩
def fn_steepest : Fn := ⟨1, 2, [.expr (.call 14 (.cons (.var 0) .nil)), .ret (.call 87 (.cons (.comp 1 (.seq (.call 89 (.cons (.var 0) .nil))) (.call 3 (.cons (.call 86 (.cons (.idx (.var 1) (.cst (.int 0))) .nil)) (.cons (.call 86 (.cons (.idx (.var 1) (.cst (.int 1))) .nil)) .nil)))) .nil))]⟩
def fn__law_rewritten : Fn := ⟨2, 5, [.par 2 3 (.call 25 (.cons (.cv 0) (.cons (.cst (.int 8)) .nil))) (.call 35 (.cons (.cv 0) (.cons (.cst (.bool true)) .nil))), .iff (.cmp .eq (.var 2) (.cst (.int 0))) [.ret (.tup (.cons (.cst (.str (Str.ofString "add"))) (.cons (.var 1) (.cons (.tup (.cons (.cst (.str (Str.ofString "num"))) (.cons (.tup (.cons (.cst (.int 0)) (.cons (.cst (.int 1)) .nil))) .nil))) .nil))))] [], .iff (.cmp .eq (.var 2) (.cst (.int 1))) [.ret (.tup (.cons (.cst (.str (Str.ofString "times"))) (.cons (.tup (.cons (.cst (.int 2)) (.cons (.cst (.int 1)) .nil))) (.cons (.tup (.cons (.cst (.str (Str.ofString "times"))) (.cons (.tup (.cons (.cst (.int 1)) (.cons (.cst (.int 2)) .nil))) (.cons (.var 1) .nil)))) .nil))))] [], .iff (.cmp .eq (.var 2) (.cst (.int 2))) [.ret (.tup (.cons (.cst (.str (Str.ofString "add"))) (.cons (.tup (.cons (.cst (.str (Str.ofString "add"))) (.cons (.var 3) (.cons (.var 1) .nil)))) (.cons (.tup (.cons (.cst (.str (Str.ofString "times"))) (.cons (.tup (.cons (.neg (.cst (.int 1))) (.cons (.cst (.int 1)) .nil))) (.cons (.var 3) .nil)))) .nil))))] [], .iff (.and (.cmp .eq (.var 2) (.cst (.int 3))) (.cmp .inn (.idx (.var 1) (.cst (.int 0))) (.tup (.cons (.cst (.str (Str.ofString "add"))) (.cons (.cst (.str (Str.ofString "more"))) (.cons (.cst (.str (Str.ofString "less"))) .nil)))))) [.ret (.tup (.cons (.idx (.var 1) (.cst (.int 0))) (.cons (.idx (.var 1) (.cst (.int 2))) (.cons (.idx (.var 1) (.cst (.int 1))) .nil))))] [], .iff (.and (.cmp .eq (.var 2) (.cst (.int 4))) (.cmp .eq (.idx (.var 1) (.cst (.int 0))) (.cst (.str (Str.ofString "more"))))) [.ret (.tup (.cons (.cst (.str (Str.ofString "add"))) (.cons (.idx (.var 1) (.cst (.int 1))) (.cons (.tup (.cons (.cst (.str (Str.ofString "more"))) (.cons (.tup (.cons (.cst (.str (Str.ofString "num"))) (.cons (.tup (.cons (.cst (.int 0)) (.cons (.cst (.int 1)) .nil))) .nil))) (.cons (.tup (.cons (.cst (.str (Str.ofString "add"))) (.cons (.idx (.var 1) (.cst (.int 2))) (.cons (.tup (.cons (.cst (.str (Str.ofString "times"))) (.cons (.tup (.cons (.neg (.cst (.int 1))) (.cons (.cst (.int 1)) .nil))) (.cons (.idx (.var 1) (.cst (.int 1))) .nil)))) .nil)))) .nil)))) .nil))))] [], .iff (.and (.cmp .eq (.var 2) (.cst (.int 5))) (.cmp .eq (.idx (.var 1) (.cst (.int 0))) (.cst (.str (Str.ofString "size"))))) [.ret (.tup (.cons (.cst (.str (Str.ofString "more"))) (.cons (.idx (.var 1) (.cst (.int 1))) (.cons (.tup (.cons (.cst (.str (Str.ofString "times"))) (.cons (.tup (.cons (.neg (.cst (.int 1))) (.cons (.cst (.int 1)) .nil))) (.cons (.idx (.var 1) (.cst (.int 1))) .nil)))) .nil))))] [], .iff (.and (.cmp .eq (.var 2) (.cst (.int 6))) (.cmp .eq (.idx (.var 1) (.cst (.int 0))) (.cst (.str (Str.ofString "less"))))) [.asg (.n 4) (.tup (.cons (.neg (.cst (.int 1))) (.cons (.cst (.int 1)) .nil))), .ret (.tup (.cons (.cst (.str (Str.ofString "times"))) (.cons (.var 4) (.cons (.tup (.cons (.cst (.str (Str.ofString "more"))) (.cons (.tup (.cons (.cst (.str (Str.ofString "times"))) (.cons (.var 4) (.cons (.idx (.var 1) (.cst (.int 1))) .nil)))) (.cons (.tup (.cons (.cst (.str (Str.ofString "times"))) (.cons (.var 4) (.cons (.idx (.var 1) (.cst (.int 2))) .nil)))) .nil)))) .nil))))] [], .ret (.tup (.cons (.cst (.str (Str.ofString "times"))) (.cons (.tup (.cons (.neg (.cst (.int 1))) (.cons (.cst (.int 1)) .nil))) (.cons (.tup (.cons (.cst (.str (Str.ofString "times"))) (.cons (.tup (.cons (.neg (.cst (.int 1))) (.cons (.cst (.int 1)) .nil))) (.cons (.var 1) .nil)))) .nil))))]⟩
def fn__law_changed : Fn := ⟨2, 3, [.asg (.n 2) (.call 25 (.cons (.cv 0) (.cons (.cst (.int 4)) .nil))), .iff (.or (.cmp .eq (.var 2) (.cst (.int 0))) (.cmp .inn (.idx (.var 1) (.cst (.int 0))) (.tup (.cons (.cst (.str (Str.ofString "in"))) (.cons (.cst (.str (Str.ofString "num"))) .nil))))) [.ret (.tup (.cons (.cst (.str (Str.ofString "add"))) (.cons (.var 1) (.cons (.call 35 (.cons (.cv 0) (.cons (.cst (.bool true)) .nil))) .nil))))] [], .iff (.and (.cmp .eq (.var 2) (.cst (.int 1))) (.cmp .inn (.idx (.var 1) (.cst (.int 0))) (.tup (.cons (.cst (.str (Str.ofString "more"))) (.cons (.cst (.str (Str.ofString "less"))) .nil))))) [.ret (.tup (.cons (.idx (.lst (.cons (.cst (.str (Str.ofString "less"))) (.cons (.cst (.str (Str.ofString "more"))) .nil))) (.call 25 (.cons (.cv 0) (.cons (.cst (.int 2)) .nil)))) (.cons (.idx (.var 1) (.cst (.int 1))) (.cons (.idx (.var 1) (.cst (.int 2))) .nil))))] [], .iff (.cmp .eq (.idx (.var 1) (.cst (.int 0))) (.cst (.str (Str.ofString "times")))) [.ret (.tup (.cons (.cst (.str (Str.ofString "times"))) (.cons (.call 34 (.cons (.cv 0) (.cons (.cst (.int 2)) .nil))) (.cons (.idx (.var 1) (.cst (.int 2))) .nil))))] [], .iff (.cmp .eq (.idx (.var 1) (.cst (.int 0))) (.cst (.str (Str.ofString "size")))) [.ret (.tup (.cons (.cst (.str (Str.ofString "size"))) (.cons (.call 97 (.cons (.cv 0) (.cons (.idx (.var 1) (.cst (.int 1))) .nil))) .nil)))] [], .iff (.cmp .eq (.call 25 (.cons (.cv 0) (.cons (.cst (.int 2)) .nil))) (.cst (.int 0))) [.ret (.tup (.cons (.idx (.var 1) (.cst (.int 0))) (.cons (.call 97 (.cons (.cv 0) (.cons (.idx (.var 1) (.cst (.int 1))) .nil))) (.cons (.idx (.var 1) (.cst (.int 2))) .nil))))] [], .ret (.tup (.cons (.idx (.var 1) (.cst (.int 0))) (.cons (.idx (.var 1) (.cst (.int 1))) (.cons (.call 97 (.cons (.cv 0) (.cons (.idx (.var 1) (.cst (.int 2))) .nil))) .nil))))]⟩
def fn_is_never_above : Fn := ⟨2, 2, [.expr (.call 72 (.cons (.var 0) (.cons (.var 1) .nil))), .ret (.cmp .eq (.call 71 (.cons (.tup (.cons (.cst (.str (Str.ofString "more"))) (.cons (.var 0) (.cons (.var 1) .nil)))) .nil)) (.call 71 (.cons (.var 1) .nil)))]⟩
def fn_exceeding : Fn := ⟨2, 3, [.expr (.call 72 (.cons (.var 0) (.cons (.var 1) .nil))), .asg (.n 2) (.call 91 (.cons (.tup (.cons (.cst (.str (Str.ofString "more"))) (.cons (.var 0) (.cons (.var 1) .nil)))) (.cons (.var 1) .nil))), .ret (.ite (.and (.cmp .isnn (.var 2) (.cst .none)) (.call 5 (.cons (.call 21 (.cons (.var 1) (.cons (.var 2) .nil))) (.cons (.call 21 (.cons (.var 0) (.cons (.var 2) .nil))) .nil)))) (.var 2) (.cst .none))]⟩
def fn_is_on : Fn := ⟨2, 3, [.asg (.n 2) (.call 3 (.cons (.call 4 (.cons (.tup (.cons (.idx (.var 0) (.cst (.int 0))) (.cons (.cst (.int 1)) .nil))) (.cons (.idx (.var 1) (.cst (.int 0))) .nil))) (.cons (.call 4 (.cons (.tup (.cons (.idx (.var 0) (.cst (.int 1))) (.cons (.cst (.int 1)) .nil))) (.cons (.idx (.var 1) (.cst (.int 1))) .nil))) .nil))), .ret (.cmp .eq (.call 3 (.cons (.var 2) (.cons (.tup (.cons (.idx (.var 0) (.cst (.int 2))) (.cons (.cst (.int 1)) .nil))) .nil))) (.tup (.cons (.cst (.int 0)) (.cons (.cst (.int 1)) .nil))))]⟩
def fn_is_within : Fn := ⟨2, 3, [.iff (.not (.call 100 (.cons (.idx (.var 0) (.cst (.int 0))) (.cons (.var 1) .nil)))) [.ret (.cst (.bool false))] [], .asg (.n 2) (.ite (.call 52 (.cons (.idx (.var 0) (.cst (.int 0))) .nil)) (.cst (.int 1)) (.cst (.int 0))), .iff (.and (.cmp .isnn (.idx (.var 0) (.cst (.int 1))) (.cst .none)) (.call 5 (.cons (.idx (.var 1) (.var 2)) (.cons (.idx (.idx (.var 0) (.cst (.int 1))) (.var 2)) .nil)))) [.ret (.cst (.bool false))] [], .ret (.or (.cmp .isn (.idx (.var 0) (.cst (.int 2))) (.cst .none)) (.not (.call 5 (.cons (.idx (.idx (.var 0) (.cst (.int 2))) (.var 2)) (.cons (.idx (.var 1) (.var 2)) .nil)))))]⟩
def fn_piece : Fn := ⟨2, 3, [.expr (.call 14 (.cons (.var 0) .nil)), .expr (.call 15 (.cons (.var 1) .nil)), .iff (.blt .any (.cons (.comp 2 (.seq (.idx (.call 71 (.cons (.var 0) .nil)) (.cst (.int 1)))) (.call 101 (.cons (.var 2) (.cons (.var 1) .nil)))) .nil)) [.raise 8] [], .ret (.call 103 (.cons (.var 0) (.cons (.var 1) .nil)))]⟩
def fn_round_about : Fn := ⟨2, 11, [.parV [2, 3] (.cons (.call 70 (.cons (.var 0) .nil)) (.cons (.idx (.var 1) (.cst (.int 0))) .nil)), .fr (.n 4) (.seq (.call 58 (.cons (.var 2) .nil))) [.asg (.n 5) (.or (.cmp .isn (.idx (.var 4) (.cst (.int 0))) (.cst .none)) (.not (.call 5 (.cons (.var 3) (.cons (.idx (.var 4) (.cst (.int 0))) .nil))))), .iff (.and (.var 5) (.or (.cmp .isn (.idx (.var 4) (.cst (.int 1))) (.cst .none)) (.call 5 (.cons (.var 3) (.cons (.idx (.var 4) (.cst (.int 1))) .nil))))) [.asg (.n 6) (.comp 7 (.seq (.idx (.var 4) (.cst (.int 2)))) (.tup (.cons (.call 53 (.cons (.var 7) (.cons (.var 3) .nil))) (.cons (.call 2 (.cons (.neg (.idx (.var 7) (.cst (.int 0)))) (.cons (.idx (.var 7) (.cst (.int 1))) .nil))) .nil)))), .asg (.n 8) (.cst (.int 0)), .fr (.t [9, 10]) (.enum (.var 6)) [.asg (.n 8) (.ite (.or (.call 5 (.cons (.idx (.var 10) (.cst (.int 0))) (.cons (.idx (.var 1) (.cst (.int 1))) .nil))) (.cmp .eq (.idx (.var 10) (.cst (.int 0))) (.idx (.var 1) (.cst (.int 1))))) (.bin .add (.var 9) (.cst (.int 1))) (.var 8))], .ret (.idx (.call 61 (.cons (.var 0) (.cons (.var 4) .nil))) (.var 8))] []], .ret (.call 20 (.cons (.var 0) (.cons (.var 1) .nil)))]⟩
def fn_left_turn : Fn := ⟨3, 3, [.ret (.bin .sub (.bin .mul (.bin .sub (.idx (.var 1) (.cst (.int 0))) (.idx (.var 0) (.cst (.int 0)))) (.bin .sub (.idx (.var 2) (.cst (.int 1))) (.idx (.var 0) (.cst (.int 1))))) (.bin .mul (.bin .sub (.idx (.var 1) (.cst (.int 1))) (.idx (.var 0) (.cst (.int 1)))) (.bin .sub (.idx (.var 2) (.cst (.int 0))) (.idx (.var 0) (.cst (.int 0))))))]⟩
def fn_is_polygon : Fn := ⟨1, 6, [.iff (.or (.not (.isi (.var 0) .tuple)) (.not (.chain .le .le (.cst (.int 3)) (.blt .len (.cons (.var 0) .nil)) (.cst (.int 6))))) [.ret (.cst (.bool false))] [], .fr (.n 1) (.seq (.var 0)) [.iff (.or (.not (.isi (.var 1) .tuple)) (.or (.cmp .ne (.blt .len (.cons (.var 1) .nil)) (.cst (.int 2))) (.not (.blt .all (.cons (.comp 2 (.seq (.var 1)) (.call 6 (.cons (.var 2) (.cons (.neg (.cst (.int 9))) (.cons (.cst (.int 9)) .nil))))) .nil))))) [.ret (.cst (.bool false))] []], .asg (.n 3) (.blt .len (.cons (.var 0) .nil)), .fr (.n 4) (.rng1 (.var 3)) [.fr (.n 5) (.rng1 (.var 3)) [.iff (.and (.cmp .nin (.var 5) (.tup (.cons (.var 4) (.cons (.bin .mod (.bin .add (.var 4) (.cst (.int 1))) (.var 3)) .nil)))) (.cmp .le (.call 104 (.cons (.idx (.var 0) (.var 4)) (.cons (.idx (.var 0) (.bin .mod (.bin .add (.var 4) (.cst (.int 1))) (.var 3))) (.cons (.idx (.var 0) (.var 5)) .nil)))) (.cst (.int 0)))) [.ret (.cst (.bool false))] []]], .ret (.cst (.bool true))]⟩
def fn_need_polygon : Fn := ⟨2, 2, [.expr (.call 14 (.cons (.var 0) .nil)), .iff (.not (.call 105 (.cons (.var 1) .nil))) [.raise 4] []]⟩
def fn_sides_of : Fn := ⟨1, 7, [.alloc 1 .nil, .fr (.t [2, 3]) (.enum (.var 0)) [.asg (.n 4) (.idx (.var 0) (.bin .mod (.bin .add (.var 2) (.cst (.int 1))) (.blt .len (.cons (.var 0) .nil)))), .par 5 6 (.bin .sub (.idx (.var 3) (.cst (.int 1))) (.idx (.var 4) (.cst (.int 1)))) (.bin .sub (.idx (.var 4) (.cst (.int 0))) (.idx (.var 3) (.cst (.int 0)))), .app 1 (.tup (.cons (.tup (.cons (.var 5) (.cons (.cst (.int 1)) .nil))) (.cons (.tup (.cons (.var 6) (.cons (.cst (.int 1)) .nil))) (.cons (.tup (.cons (.bin .sub (.bin .mul (.neg (.var 5)) (.idx (.var 3) (.cst (.int 0)))) (.bin .mul (.var 6) (.idx (.var 3) (.cst (.int 1))))) (.cons (.cst (.int 1)) .nil))) .nil))))], .retC 1]⟩
def fn_is_inside : Fn := ⟨2, 3, [.ret (.not (.blt .any (.cons (.comp 2 (.seq (.var 0)) (.call 5 (.cons (.call 16 (.cons (.var 2) (.cons (.var 1) .nil))) (.cons (.tup (.cons (.cst (.int 0)) (.cons (.cst (.int 1)) .nil))) .nil)))) .nil)))]⟩
def fn_corners_of : Fn := ⟨1, 7, [.stk, .fr (.t [4, 5]) (.enum (.var 0)) [.fr (.n 6) (.seq (.slice (.var 0) (.some (.bin .add (.var 4) (.cst (.int 1)))) .none)) [.asg (.n 3) (.call 54 (.cons (.idx (.var 5) (.cst (.int 0))) (.cons (.idx (.var 6) (.cst (.int 0))) .nil))), .iff (.and (.cmp .isnn (.var 3) (.cst .none)) (.and (.call 101 (.cons (.var 5) (.cons (.var 3) .nil))) (.call 101 (.cons (.var 6) (.cons (.var 3) .nil))))) [.stk] []]], .ret (.var 1)]⟩
def fn_candidates : Fn := ⟨2, 10, [.parV [2, 3] (.cons (.idx (.call 71 (.cons (.var 0) .nil)) (.cst (.int 1))) (.cons (.call 107 (.cons (.var 1) .nil)) .nil)), .asg (.n 4) (.bin .add (.compT (.t [5, 6]) (.seq (.var 1)) (.tup (.cons (.tup (.cons (.var 5) (.cons (.cst (.int 1)) .nil))) (.cons (.tup (.cons (.var 6) (.cons (.cst (.int 1)) .nil))) .nil)))) (.call 109 (.cons (.var 2) .nil))), .fr (.n 7) (.seq (.var 3)) [.fr (.n 8) (.seq (.var 2)) [.asg (.n 9) (.call 54 (.cons (.call 51 (.cons (.var 7) .nil)) (.cons (.idx (.var 8) (.cst (.int 0))) .nil))), .iff (.and (.cmp .isnn (.var 9) (.cst .none)) (.call 101 (.cons (.var 8) (.cons (.var 9) .nil)))) [.stk] []]], .stk]⟩
def fn_best_of : Fn := ⟨3, 7, [.alloc 3 .nil, .fr (.n 4) (.seq (.call 110 (.cons (.var 0) (.cons (.var 1) .nil)))) [.app 3 (.tup (.cons (.call 4 (.cons (.call 21 (.cons (.var 0) (.cons (.var 4) .nil))) (.cons (.tup (.cons (.var 2) (.cons (.cst (.int 1)) .nil))) .nil))) (.cons (.var 4) .nil)))], .frz 3, .asg (.n 5) (.idx (.call 47 (.cons (.var 3) (.cons (.comp 6 (.seq (.var 3)) (.bin .add (.tup (.cons (.idx (.var 6) (.cst (.int 0))) .nil)) (.idx (.var 6) (.cst (.int 1))))) .nil))) (.cst (.int 0))), .ret (.tup (.cons (.call 4 (.cons (.idx (.var 5) (.cst (.int 0))) (.cons (.tup (.cons (.var 2) (.cons (.cst (.int 1)) .nil))) .nil))) (.cons (.idx (.var 5) (.cst (.int 1))) .nil)))]⟩
def fn_least_over : Fn := ⟨2, 2, [.expr (.call 106 (.cons (.var 0) (.cons (.var 1) .nil))), .ret (.call 111 (.cons (.var 0) (.cons (.var 1) (.cons (.cst (.int 1)) .nil))))]⟩
def fn_greatest_over : Fn := ⟨2, 2, [.expr (.call 106 (.cons (.var 0) (.cons (.var 1) .nil))), .ret (.call 111 (.cons (.var 0) (.cons (.var 1) (.cons (.neg (.cst (.int 1))) .nil))))]⟩
def fn__law_polygon : Fn := ⟨1, 2, [.alloc 1 (.cons (.tup (.cons (.bin .sub (.neg (.cst (.int 1))) (.call 25 (.cons (.cv 0) (.cons (.cst (.int 8)) .nil)))) (.cons (.bin .sub (.neg (.cst (.int 1))) (.call 25 (.cons (.cv 0) (.cons (.cst (.int 8)) .nil)))) .nil))) (.cons (.tup (.cons (.bin .add (.cst (.int 1)) (.call 25 (.cons (.cv 0) (.cons (.cst (.int 8)) .nil)))) (.cons (.bin .sub (.neg (.cst (.int 1))) (.call 25 (.cons (.cv 0) (.cons (.cst (.int 8)) .nil)))) .nil))) .nil)), .app 1 (.tup (.cons (.bin .add (.cst (.int 1)) (.call 25 (.cons (.cv 0) (.cons (.cst (.int 8)) .nil)))) (.cons (.bin .add (.cst (.int 1)) (.call 25 (.cons (.cv 0) (.cons (.cst (.int 8)) .nil)))) .nil))), .iff (.cmp .eq (.call 25 (.cons (.cv 0) (.cons (.cst (.int 2)) .nil))) (.cst (.int 0))) [.app 1 (.tup (.cons (.bin .sub (.neg (.cst (.int 1))) (.call 25 (.cons (.cv 0) (.cons (.cst (.int 8)) .nil)))) (.cons (.bin .add (.cst (.int 1)) (.call 25 (.cons (.cv 0) (.cons (.cst (.int 8)) .nil)))) .nil)))] [], .ret (.bltC .tuple 1)]⟩
def fn__law_mixed : Fn := ⟨2, 8, [.asg (.n 2) (.comp 3 (.seq (.var 1)) (.call 25 (.cons (.cv 0) (.cons (.cst (.int 9)) .nil)))), .stk, .asg (.n 4) (.blt .sum (.cons (.var 2) .nil)), .asg (.n 5) (.blt .sum (.cons (.compT (.t [6, 3]) (.enum (.var 1)) (.bin .mul (.idx (.var 2) (.var 6)) (.idx (.var 3) (.cst (.int 0))))) .nil)), .asg (.n 7) (.blt .sum (.cons (.compT (.t [6, 3]) (.enum (.var 1)) (.bin .mul (.idx (.var 2) (.var 6)) (.idx (.var 3) (.cst (.int 1))))) .nil)), .ret (.tup (.cons (.call 29 (.cons (.var 5) (.cons (.var 4) .nil))) (.cons (.call 29 (.cons (.var 7) (.cons (.var 4) .nil))) .nil)))]⟩
def fn__law_in_polygon : Fn := ⟨2, 8, [.fr (.t [2, 3]) (.enum (.var 0)) [.asg (.n 4) (.idx (.var 0) (.bin .mod (.bin .add (.var 2) (.cst (.int 1))) (.blt .len (.cons (.var 0) .nil)))), .par 5 6 (.bin .sub (.idx (.var 4) (.cst (.int 0))) (.idx (.var 3) (.cst (.int 0)))) (.bin .sub (.idx (.var 4) (.cst (.int 1))) (.idx (.var 3) (.cst (.int 1)))), .asg (.n 7) (.call 31 (.cons (.tup (.cons (.var 5) (.cons (.cst (.int 1)) .nil))) (.cons (.call 77 (.cons (.idx (.var 1) (.cst (.int 1))) (.cons (.tup (.cons (.idx (.var 3) (.cst (.int 1))) (.cons (.cst (.int 1)) .nil))) .nil))) .nil))), .iff (.call 32 (.cons (.var 7) (.cons (.call 31 (.cons (.tup (.cons (.var 6) (.cons (.cst (.int 1)) .nil))) (.cons (.call 77 (.cons (.idx (.var 1) (.cst (.int 0))) (.cons (.tup (.cons (.idx (.var 3) (.cst (.int 0))) (.cons (.cst (.int 1)) .nil))) .nil))) .nil))) .nil))) [.ret (.cst (.bool false))] []], .ret (.cst (.bool true))]⟩
def fn_over : Fn := ⟨2, 2, [.ret (.call 2 (.cons (.bin .mul (.idx (.var 0) (.cst (.int 0))) (.idx (.var 1) (.cst (.int 1)))) (.cons (.bin .mul (.idx (.var 0) (.cst (.int 1))) (.idx (.var 1) (.cst (.int 0)))) .nil)))]⟩
def fn_reached : Fn := ⟨3, 14, [.expr (.call 106 (.cons (.var 0) (.cons (.var 1) .nil))), .iff (.not (.call 7 (.cons (.var 2) (.cons (.cst (.int 999)) .nil)))) [.raise 3] [], .par 3 4 (.call 111 (.cons (.var 0) (.cons (.var 1) (.cons (.cst (.int 1)) .nil)))) (.call 111 (.cons (.var 0) (.cons (.var 1) (.cons (.neg (.cst (.int 1))) .nil)))), .iff (.or (.call 5 (.cons (.var 2) (.cons (.idx (.var 3) (.cst (.int 0))) .nil))) (.call 5 (.cons (.idx (.var 4) (.cst (.int 0))) (.cons (.var 2) .nil)))) [.ret (.cst .none)] [], .par 5 6 (.idx (.var 3) (.cst (.int 1))) (.idx (.var 4) (.cst (.int 1))), .asg (.n 7) (.bin .add (.lst (.cons (.tup (.cons (.cst (.int 0)) (.cons (.cst (.int 1)) .nil))) (.cons (.tup (.cons (.cst (.int 1)) (.cons (.cst (.int 1)) .nil))) .nil))) (.call 120 (.cons (.var 0) (.cons (.var 5) (.cons (.var 6) .nil))))), .asg (.n 7) (.call 47 (.cons (.var 7) (.cons (.comp 8 (.seq (.var 7)) (.tup (.cons (.var 8) .nil))) .nil))), .fr (.n 9) (.rng1 (.bin .sub (.blt .len (.cons (.var 7) .nil)) (.cst (.int 1)))) [.par 10 11 (.call 119 (.cons (.var 5) (.cons (.var 6) (.cons (.idx (.var 7) (.var 9)) .nil)))) (.call 119 (.cons (.var 5) (.cons (.var 6) (.cons (.idx (.var 7) (.bin .add (.var 9) (.cst (.int 1)))) .nil)))), .par 12 13 (.call 21 (.cons (.var 0) (.cons (.var 10) .nil))) (.call 21 (.cons (.var 0) (.cons (.var 11) .nil))), .iff (.and (.not (.call 5 (.cons (.var 2) (.cons (.var 12) .nil)))) (.not (.call 5 (.cons (.var 13) (.cons (.var 2) .nil))))) [.ret (.ite (.cmp .eq (.var 12) (.var 13)) (.var 10) (.call 119 (.cons (.var 10) (.cons (.var 11) (.cons (.call 117 (.cons (.call 45 (.cons (.var 2) (.cons (.var 12) .nil))) (.cons (.call 45 (.cons (.var 13) (.cons (.var 12) .nil))) .nil))) .nil)))))] []], .ret (.idx (.var 3) (.cst (.int 1)))]⟩
def fn_at_share : Fn := ⟨3, 4, [.ret (.blt .tuple (.cons (.comp 3 (.rng1 (.cst (.int 2))) (.call 3 (.cons (.idx (.var 0) (.var 3)) (.cons (.call 4 (.cons (.call 45 (.cons (.idx (.var 1) (.var 3)) (.cons (.idx (.var 0) (.var 3)) .nil))) (.cons (.var 2) .nil))) .nil)))) .nil))]⟩
def fn_shares_on : Fn := ⟨3, 10, [.alloc 3 .nil, .fr (.n 4) (.seq (.idx (.call 71 (.cons (.var 0) .nil)) (.cst (.int 1)))) [.asg (.n 5) (.blt .tuple (.cons (.comp 6 (.seq (.idx (.var 4) (.cst (.int 0)))) (.tup (.cons (.var 6) (.cons (.cst (.int 1)) .nil)))) .nil)), .par 7 8 (.call 16 (.cons (.var 5) (.cons (.var 1) .nil))) (.call 16 (.cons (.var 5) (.cons (.var 2) .nil))), .iff (.cmp .ne (.var 7) (.var 8)) [.asg (.n 9) (.call 117 (.cons (.var 7) (.cons (.call 45 (.cons (.var 7) (.cons (.var 8) .nil))) .nil))), .iff (.and (.call 5 (.cons (.tup (.cons (.cst (.int 0)) (.cons (.cst (.int 1)) .nil))) (.cons (.var 9) .nil))) (.call 5 (.cons (.var 9) (.cons (.tup (.cons (.cst (.int 1)) (.cons (.cst (.int 1)) .nil))) .nil)))) [.app 3 (.var 9)] []] []], .retC 3]⟩
def fn_distance : Fn := ⟨2, 3, [.ret (.call 87 (.cons (.comp 2 (.rng1 (.cst (.int 2))) (.call 86 (.cons (.call 45 (.cons (.idx (.var 0) (.var 2)) (.cons (.idx (.var 1) (.var 2)) .nil))) .nil))) .nil))]⟩
def fn_guides : Fn := ⟨1, 5, [.asg (.t [1, 2]) (.var 0), .alloc 3 (.cons (.tup (.cons (.tup (.cons (.cst (.int 0)) (.cons (.cst (.int 1)) .nil))) (.cons (.tup (.cons (.cst (.int 1)) (.cons (.cst (.int 1)) .nil))) (.cons (.tup (.cons (.neg (.idx (.var 2) (.cst (.int 0)))) (.cons (.idx (.var 2) (.cst (.int 1))) .nil))) .nil)))) (.cons (.tup (.cons (.tup (.cons (.cst (.int 1)) (.cons (.cst (.int 1)) .nil))) (.cons (.tup (.cons (.cst (.int 0)) (.cons (.cst (.int 1)) .nil))) (.cons (.tup (.cons (.neg (.idx (.var 1) (.cst (.int 0)))) (.cons (.idx (.var 1) (.cst (.int 1))) .nil))) .nil)))) .nil)), .app 3 (.tup (.cons (.tup (.cons (.cst (.int 1)) (.cons (.cst (.int 1)) .nil))) (.cons (.tup (.cons (.neg (.cst (.int 1))) (.cons (.cst (.int 1)) .nil))) (.cons (.call 45 (.cons (.var 2) (.cons (.var 1) .nil))) .nil)))), .app 3 (.tup (.cons (.tup (.cons (.cst (.int 1)) (.cons (.cst (.int 1)) .nil))) (.cons (.tup (.cons (.cst (.int 1)) (.cons (.cst (.int 1)) .nil))) (.cons (.call 45 (.cons (.tup (.cons (.neg (.idx (.var 2) (.cst (.int 0)))) (.cons (.idx (.var 2) (.cst (.int 1))) .nil))) (.cons (.var 1) .nil))) .nil)))), .frz 3, .ret (.comp 4 (.seq (.var 3)) (.call 51 (.cons (.var 4) .nil)))]⟩
def fn_level_lines : Fn := ⟨2, 5, [.alloc 2 .nil, .fr (.n 3) (.seq (.call 89 (.cons (.var 0) .nil))) [.asg (.n 4) (.call 51 (.cons (.tup (.cons (.idx (.var 3) (.cst (.int 0))) (.cons (.idx (.var 3) (.cst (.int 1))) (.cons (.call 45 (.cons (.idx (.var 3) (.cst (.int 2))) (.cons (.var 1) .nil))) .nil)))) .nil)), .iff (.cmp .isnn (.var 4) (.cst .none)) [.app 2 (.var 4)] []], .retC 2]⟩
def fn_meeting_points : Fn := ⟨2, 8, [.asg (.n 2) (.call 109 (.cons (.var 0) .nil)), .fr (.t [3, 4]) (.enum (.var 1)) [.fr (.n 5) (.seq (.slice (.var 1) (.some (.bin .add (.var 3) (.cst (.int 1)))) .none)) [.asg (.n 6) (.call 54 (.cons (.var 4) (.cons (.var 5) .nil))), .asg (.n 2) (.bin .add (.var 2) (.ite (.cmp .isnn (.var 6) (.cst .none)) (.lst (.cons (.var 6) .nil)) (.lst .nil)))], .fr (.n 7) (.seq (.var 0)) [.asg (.n 6) (.call 54 (.cons (.var 4) (.cons (.idx (.var 7) (.cst (.int 0))) .nil))), .iff (.and (.cmp .isnn (.var 6) (.cst .none)) (.call 101 (.cons (.var 7) (.cons (.var 6) .nil)))) [.stk] []]], .ret (.var 2)]⟩
def fn_drop : Fn := ⟨3, 7, [.expr (.call 14 (.cons (.var 0) .nil)), .expr (.call 15 (.cons (.var 1) .nil)), .iff (.not (.call 7 (.cons (.var 2) (.cons (.cst (.int 999)) .nil)))) [.raise 3] [], .asg (.n 3) (.bin .add (.lst (.cons (.var 1) .nil)) (.call 124 (.cons (.idx (.call 71 (.cons (.var 0) .nil)) (.cst (.int 1))) (.cons (.bin .add (.call 123 (.cons (.var 0) (.cons (.var 2) .nil))) (.call 122 (.cons (.var 1) .nil))) .nil)))), .alloc 4 .nil, .stk, .iff (.cmpC .eq 4 (.lst .nil)) [.ret (.cst .none)] [], .frz 4, .ret (.idx (.call 47 (.cons (.var 4) (.cons (.comp 6 (.seq (.var 4)) (.bin .add (.tup (.cons (.idx (.var 6) (.cst (.int 0))) .nil)) (.idx (.var 6) (.cst (.int 1))))) .nil))) (.cst (.int 0)))]⟩
def fn__law_far : Fn := ⟨2, 5, [.asg (.n 2) (.comp 3 (.rng1 (.cst (.int 2))) (.call 77 (.cons (.idx (.var 0) (.var 3)) (.cons (.idx (.var 1) (.var 3)) .nil)))), .asg (.n 2) (.comp 4 (.seq (.var 2)) (.tup (.cons (.blt .abs (.cons (.idx (.var 4) (.cst (.int 0))) .nil)) (.cons (.idx (.var 4) (.cst (.int 1))) .nil)))), .ret (.ite (.call 32 (.cons (.idx (.var 2) (.cst (.int 1))) (.cons (.idx (.var 2) (.cst (.int 0))) .nil))) (.idx (.var 2) (.cst (.int 0))) (.idx (.var 2) (.cst (.int 1))))]⟩
def fn_is_downward : Fn := ⟨1, 2, [.expr (.call 14 (.cons (.var 0) .nil)), .ret (.not (.blt .any (.cons (.comp 1 (.seq (.idx (.call 71 (.cons (.var 0) .nil)) (.cst (.int 1)))) (.call 93 (.cons (.var 1) .nil))) .nil)))]⟩
def fn__law_beside : Fn := ⟨1, 8, [.asg (.t [1, 2, 3]) (.slice (.var 0) .none (.some (.cst (.int 3)))), .asg (.t [4, 5, 6]) (.var 1), .iff (.cmp .eq (.var 5) (.cst (.int 0))) [.asg (.n 7) (.ite (.cmp .isn (.var 2) (.cst .none)) (.tup (.cons (.cst (.int 0)) (.cons (.cst (.int 1)) .nil))) (.idx (.var 2) (.cst (.int 1)))), .ret (.tup (.cons (.call 77 (.cons (.call 29 (.cons (.neg (.var 6)) (.cons (.var 4) .nil))) (.cons (.tup (.cons (.cst (.int 1)) (.cons (.cst (.int 1)) .nil))) .nil))) (.cons (.var 7) .nil)))] [], .asg (.n 7) (.ite (.cmp .isn (.var 2) (.cst .none)) (.tup (.cons (.cst (.int 0)) (.cons (.cst (.int 1)) .nil))) (.idx (.var 2) (.cst (.int 0)))), .ret (.tup (.cons (.var 7) (.cons (.call 30 (.cons (.call 29 (.cons (.bin .sub (.bin .mul (.neg (.var 4)) (.idx (.var 7) (.cst (.int 0)))) (.bin .mul (.var 6) (.idx (.var 7) (.cst (.int 1))))) (.cons (.bin .mul (.var 5) (.idx (.var 7) (.cst (.int 1)))) .nil))) (.cons (.tup (.cons (.cst (.int 1)) (.cons (.cst (.int 1)) .nil))) .nil))) .nil)))]⟩
def fn_need_one : Fn := ⟨1, 4, [.expr (.call 14 (.cons (.var 0) .nil)), .asg (.t [1, 2]) (.call 71 (.cons (.var 0) .nil)), .iff (.or (.cmp .ne (.idx (.var 1) (.cst (.int 1))) (.tup (.cons (.cst (.int 0)) (.cons (.cst (.int 1)) .nil)))) (.blt .any (.cons (.comp 3 (.seq (.var 2)) (.cmp .ne (.idx (.idx (.var 3) (.cst (.int 0))) (.cst (.int 1))) (.cst (.int 0)))) .nil))) [.raise 9] [], .ret (.tup (.cons (.var 1) (.cons (.var 2) .nil)))]⟩
def fn_place_of : Fn := ⟨1, 1, [.ret (.call 2 (.cons (.neg (.idx (.idx (.var 0) (.cst (.int 0))) (.cst (.int 2)))) (.cons (.idx (.idx (.var 0) (.cst (.int 0))) (.cst (.int 0))) .nil)))]⟩
def fn_bends_of : Fn := ⟨1, 2, [.ret (.comp 1 (.seq (.call 132 (.cons (.idx (.var 0) (.cst (.int 1))) .nil))) (.tup (.cons (.call 130 (.cons (.var 1) .nil)) (.cons (.call 45 (.cons (.idx (.idx (.var 1) (.cst (.int 4))) (.cst (.int 0))) (.cons (.idx (.idx (.var 1) (.cst (.int 3))) (.cst (.int 0))) .nil))) .nil))))]⟩
def fn_in_sequence : Fn := ⟨1, 2, [.ret (.call 47 (.cons (.blt .list (.cons (.var 0) .nil)) (.cons (.comp 1 (.seq (.var 0)) (.tup (.cons (.call 130 (.cons (.var 1) .nil)) .nil))) .nil)))]⟩
def fn_bends : Fn := ⟨1, 1, [.ret (.blt .tuple (.cons (.call 131 (.cons (.call 129 (.cons (.var 0) .nil)) .nil)) .nil))]⟩
def fn_straight_term : Fn := ⟨1, 1, [.ret (.tup (.cons (.cst (.str (Str.ofString "add"))) (.cons (.tup (.cons (.cst (.str (Str.ofString "times"))) (.cons (.idx (.var 0) (.cst (.int 0))) (.cons (.tup (.cons (.cst (.str (Str.ofString "in"))) (.cons (.cst (.int 0)) .nil))) .nil)))) (.cons (.tup (.cons (.cst (.str (Str.ofString "num"))) (.cons (.idx (.var 0) (.cst (.int 2))) .nil))) .nil))))]⟩
def fn_one_layer : Fn := ⟨1, 6, [.asg (.n 1) (.call 129 (.cons (.var 0) .nil)), .asg (.n 2) (.call 134 (.cons (.idx (.var 1) (.cst (.int 0))) .nil)), .fr (.t [3, 4]) (.seq (.call 131 (.cons (.var 1) .nil))) [.asg (.n 5) (.tup (.cons (.cst (.str (Str.ofString "more"))) (.cons (.tup (.cons (.cst (.str (Str.ofString "num"))) (.cons (.tup (.cons (.cst (.int 0)) (.cons (.cst (.int 1)) .nil))) .nil))) (.cons (.tup (.cons (.cst (.str (Str.ofString "add"))) (.cons (.tup (.cons (.cst (.str (Str.ofString "in"))) (.cons (.cst (.int 0)) .nil))) (.cons (.tup (.cons (.cst (.str (Str.ofString "num"))) (.cons (.tup (.cons (.neg (.idx (.var 3) (.cst (.int 0)))) (.cons (.idx (.var 3) (.cst (.int 1))) .nil))) .nil))) .nil)))) .nil)))), .asg (.n 2) (.tup (.cons (.cst (.str (Str.ofString "add"))) (.cons (.var 2) (.cons (.tup (.cons (.cst (.str (Str.ofString "times"))) (.cons (.var 4) (.cons (.var 5) .nil)))) .nil))))], .ret (.var 2)]⟩
def fn_stretches_of : Fn := ⟨1, 7, [.asg (.n 1) (.comp 2 (.seq (.call 132 (.cons (.idx (.var 0) (.cst (.int 1))) .nil))) (.call 130 (.cons (.var 2) .nil))), .asg (.n 3) (.bin .add (.lst (.cons (.idx (.var 0) (.cst (.int 0))) .nil)) (.comp 2 (.seq (.call 132 (.cons (.idx (.var 0) (.cst (.int 1))) .nil))) (.idx (.var 2) (.cst (.int 4))))), .asg (.n 4) (.bin .add (.bin .add (.lst (.cons (.cst .none) .nil)) (.var 1)) (.lst (.cons (.cst .none) .nil))), .ret (.compT (.t [5, 6]) (.enum (.var 3)) (.tup (.cons (.idx (.var 4) (.var 5)) (.cons (.idx (.var 4) (.bin .add (.var 5) (.cst (.int 1)))) (.cons (.var 6) .nil)))))]⟩
def fn_places_with : Fn := ⟨2, 10, [.asg (.n 2) (.call 129 (.cons (.var 0) .nil)), .iff (.not (.call 7 (.cons (.var 1) (.cons (.cst (.int 999)) .nil)))) [.raise 3] [], .alloc 3 .nil, .fr (.t [4, 5, 6]) (.seq (.call 136 (.cons (.var 2) .nil))) [.iff (.cmp .eq (.idx (.var 6) (.cst (.int 0))) (.tup (.cons (.cst (.int 0)) (.cons (.cst (.int 1)) .nil)))) [.asg (.n 7) (.ite (.cmp .eq (.idx (.var 6) (.cst (.int 2))) (.var 1)) (.tup (.cons (.var 4) (.cons (.var 5) .nil))) (.cst .none))] [.asg (.n 8) (.call 117 (.cons (.call 45 (.cons (.var 1) (.cons (.idx (.var 6) (.cst (.int 2))) .nil))) (.cons (.idx (.var 6) (.cst (.int 0))) .nil))), .asg (.n 9) (.and (.cmp .isnn (.var 4) (.cst .none)) (.call 5 (.cons (.var 8) (.cons (.var 4) .nil)))), .asg (.n 7) (.ite (.or (.var 9) (.and (.cmp .isnn (.var 5) (.cst .none)) (.call 5 (.cons (.var 5) (.cons (.var 8) .nil))))) (.cst .none) (.tup (.cons (.var 8) (.cons (.var 8) .nil))))], .iff (.and (.cmp .isnn (.var 7) (.cst .none)) (.and (.cmpC .ne 3 (.lst .nil)) (.and (.cmp .isnn (.idx (.idxC 3 (.neg (.cst (.int 1)))) (.cst (.int 1))) (.cst .none)) (.cmp .eq (.idx (.idxC 3 (.neg (.cst (.int 1)))) (.cst (.int 1))) (.idx (.var 7) (.cst (.int 0))))))) [.setC 3 (.neg (.cst (.int 1))) (.tup (.cons (.idx (.idxC 3 (.neg (.cst (.int 1)))) (.cst (.int 0))) (.cons (.idx (.var 7) (.cst (.int 1))) .nil)))] [.iff (.cmp .isnn (.var 7) (.cst .none)) [.app 3 (.var 7)] []]], .ret (.bltC .tuple 3)]⟩
def fn__law_slope : Fn := ⟨3, 6, [.asg (.n 3) (.bin .pow (.cst (.int 10)) (.cst (.int 40))), .asg (.n 4) (.call 30 (.cons (.var 1) (.cons (.tup (.cons (.var 2) (.cons (.var 3) .nil))) .nil))), .asg (.n 5) (.call 77 (.cons (.call 33 (.cons (.var 0) (.cons (.tup (.cons (.var 4) (.cons (.tup (.cons (.cst (.int 0)) (.cons (.cst (.int 1)) .nil))) .nil))) .nil))) (.cons (.call 33 (.cons (.var 0) (.cons (.tup (.cons (.var 1) (.cons (.tup (.cons (.cst (.int 0)) (.cons (.cst (.int 1)) .nil))) .nil))) .nil))) .nil))), .ret (.call 31 (.cons (.var 5) (.cons (.tup (.cons (.bin .mul (.var 2) (.var 3)) (.cons (.cst (.int 1)) .nil))) .nil)))]⟩
def fn__law_flat_places : Fn := ⟨0, 2, [.asg (.n 0) (.tup (.cons (.cst (.str (Str.ofString "less"))) (.cons (.tup (.cons (.cst (.str (Str.ofString "num"))) (.cons (.tup (.cons (.cst (.int 2)) (.cons (.cst (.int 1)) .nil))) .nil))) (.cons (.tup (.cons (.cst (.str (Str.ofString "more"))) (.cons (.tup (.cons (.cst (.str (Str.ofString "num"))) (.cons (.tup (.cons (.cst (.int 1)) (.cons (.cst (.int 1)) .nil))) .nil))) (.cons (.tup (.cons (.cst (.str (Str.ofString "in"))) (.cons (.cst (.int 0)) .nil))) .nil)))) .nil)))), .iff (.or (.cmp .ne (.call 137 (.cons (.var 0) (.cons (.tup (.cons (.cst (.int 1)) (.cons (.cst (.int 1)) .nil))) .nil))) (.tup (.cons (.tup (.cons (.cst .none) (.cons (.tup (.cons (.cst (.int 1)) (.cons (.cst (.int 1)) .nil))) .nil))) .nil))) (.cmp .ne (.call 137 (.cons (.var 0) (.cons (.tup (.cons (.cst (.int 2)) (.cons (.cst (.int 1)) .nil))) .nil))) (.tup (.cons (.tup (.cons (.tup (.cons (.cst (.int 2)) (.cons (.cst (.int 1)) .nil))) (.cons (.cst .none) .nil))) .nil)))) [.ret (.cst (.bool false))] [], .iff (.or (.cmp .ne (.call 137 (.cons (.tup (.cons (.cst (.str (Str.ofString "num"))) (.cons (.tup (.cons (.cst (.int 3)) (.cons (.cst (.int 1)) .nil))) .nil))) (.cons (.tup (.cons (.cst (.int 3)) (.cons (.cst (.int 1)) .nil))) .nil))) (.tup (.cons (.tup (.cons (.cst .none) (.cons (.cst .none) .nil))) .nil))) (.cmp .ne (.call 137 (.cons (.var 0) (.cons (.tup (.cons (.cst (.int 3)) (.cons (.cst (.int 1)) .nil))) .nil))) (.tup .nil))) [.ret (.cst (.bool false))] [], .fr (.n 1) (.seq (.lst (.cons (.cst .none) (.cons (.cst (.int 3)) (.cons (.tup (.cons (.cst (.int 2)) (.cons (.cst (.int 4)) .nil))) (.cons (.tup (.cons (.cst (.int 1000)) (.cons (.cst (.int 1)) .nil))) .nil)))))) [.stk], .stk]⟩
def fn__law_holds : Fn := ⟨2, 2, [.iff (.and (.cmp .isnn (.idx (.var 0) (.cst (.int 0))) (.cst .none)) (.call 32 (.cons (.var 1) (.cons (.idx (.var 0) (.cst (.int 0))) .nil)))) [.ret (.cst (.bool false))] [], .ret (.or (.cmp .isn (.idx (.var 0) (.cst (.int 1))) (.cst .none)) (.not (.call 32 (.cons (.idx (.var 0) (.cst (.int 1))) (.cons (.var 1) .nil)))))]⟩
def fn_rises : Fn := ⟨1, 6, [.parV [1, 2] (.cons (.call 129 (.cons (.var 0) .nil)) (.cons .nl .nil)), .fr (.t [3, 4, 5]) (.seq (.call 136 (.cons (.var 1) .nil))) [.iff (.call 5 (.cons (.tup (.cons (.cst (.int 0)) (.cons (.cst (.int 1)) .nil))) (.cons (.idx (.var 5) (.cst (.int 0))) .nil))) [.iff (.and (.cmpC .ne 2 (.lst .nil)) (.and (.cmp .isnn (.idx (.idxC 2 (.neg (.cst (.int 1)))) (.cst (.int 1))) (.cst .none)) (.cmp .eq (.idx (.idxC 2 (.neg (.cst (.int 1)))) (.cst (.int 1))) (.var 3)))) [.setC 2 (.neg (.cst (.int 1))) (.tup (.cons (.idx (.idxC 2 (.neg (.cst (.int 1)))) (.cst (.int 0))) (.cons (.var 4) .nil)))] [.app 2 (.tup (.cons (.var 3) (.cons (.var 4) .nil)))]] []], .ret (.bltC .tuple 2)]⟩
def fn__law_slope_at : Fn := ⟨2, 3, [.asg (.n 2) (.call 30 (.cons (.var 1) (.cons (.tup (.cons (.cst (.int 1)) (.cons (.bin .pow (.cst (.int 10)) (.cst (.int 40))) .nil))) .nil))), .ret (.call 77 (.cons (.call 33 (.cons (.var 0) (.cons (.tup (.cons (.var 2) (.cons (.tup (.cons (.cst (.int 0)) (.cons (.cst (.int 1)) .nil))) .nil))) .nil))) (.cons (.call 33 (.cons (.var 0) (.cons (.tup (.cons (.var 1) (.cons (.tup (.cons (.cst (.int 0)) (.cons (.cst (.int 1)) .nil))) .nil))) .nil))) .nil)))]⟩
def fn_is_cell : Fn := ⟨2, 3, [.iff (.or (.not (.isi (.var 0) .tuple)) (.or (.cmp .ne (.blt .len (.cons (.var 0) .nil)) (.cst (.int 3))) (.not (.isi (.idx (.var 0) (.cst (.int 2))) .bool)))) [.ret (.cst (.bool false))] [], .iff (.or (.not (.isi (.idx (.var 0) (.cst (.int 0))) .tuple)) (.or (.cmp .ne (.blt .len (.cons (.idx (.var 0) (.cst (.int 0))) .nil)) (.var 1)) (.not (.call 6 (.cons (.idx (.var 0) (.cst (.int 1))) (.cons (.neg (.cst (.int 9))) (.cons (.cst (.int 9)) .nil))))))) [.ret (.cst (.bool false))] [], .ret (.blt .all (.cons (.comp 2 (.seq (.idx (.var 0) (.cst (.int 0)))) (.call 6 (.cons (.var 2) (.cons (.neg (.cst (.int 4))) (.cons (.cst (.int 4)) .nil))))) .nil))]⟩
def fn_is_net : Fn := ⟨1, 7, [.iff (.or (.not (.isi (.var 0) .tuple)) (.or (.cmp .ne (.blt .len (.cons (.var 0) .nil)) (.cst (.int 3))) (.not (.call 6 (.cons (.idx (.var 0) (.cst (.int 0))) (.cons (.cst (.int 1)) (.cons (.cst (.int 2)) .nil))))))) [.ret (.cst (.bool false))] [], .asg (.t [1, 2, 3]) (.var 0), .iff (.or (.not (.isi (.var 2) .tuple)) (.cmp .gt (.blt .len (.cons (.var 2) .nil)) (.cst (.int 2)))) [.ret (.cst (.bool false))] [], .fr (.n 4) (.seq (.var 2)) [.iff (.or (.not (.isi (.var 4) .tuple)) (.or (.not (.chain .le .le (.cst (.int 1)) (.blt .len (.cons (.var 4) .nil)) (.cst (.int 3)))) (.not (.blt .all (.cons (.comp 5 (.seq (.var 4)) (.call 143 (.cons (.var 5) (.cons (.var 1) .nil)))) .nil))))) [.ret (.cst (.bool false))] [], .asg (.n 1) (.blt .len (.cons (.var 4) .nil))], .iff (.or (.not (.call 143 (.cons (.var 3) (.cons (.var 1) .nil)))) (.idx (.var 3) (.cst (.int 2)))) [.ret (.cst (.bool false))] [], .ret (.cmp .le (.blt .sum (.cons (.comp 4 (.seq (.var 2)) (.blt .sum (.cons (.comp 6 (.seq (.var 4)) (.blt .int (.cons (.idx (.var 6) (.cst (.int 2))) .nil))) .nil))) .nil)) (.glb 4))]⟩
def fn_need_net : Fn := ⟨1, 1, [.iff (.not (.call 144 (.cons (.var 0) .nil))) [.raise 1] []]⟩
def fn_cell_sum : Fn := ⟨2, 5, [.asg (.n 2) (.tup (.cons (.cst (.str (Str.ofString "num"))) (.cons (.tup (.cons (.idx (.var 0) (.cst (.int 1))) (.cons (.cst (.int 1)) .nil))) .nil))), .fr (.t [3, 4]) (.enum (.idx (.var 0) (.cst (.int 0)))) [.asg (.n 2) (.tup (.cons (.cst (.str (Str.ofString "add"))) (.cons (.var 2) (.cons (.tup (.cons (.cst (.str (Str.ofString "times"))) (.cons (.tup (.cons (.var 4) (.cons (.cst (.int 1)) .nil))) (.cons (.idx (.var 1) (.var 3)) .nil)))) .nil))))], .ret (.var 2)]⟩
def fn_cell_term : Fn := ⟨2, 3, [.asg (.n 2) (.call 146 (.cons (.var 0) (.cons (.var 1) .nil))), .ret (.ite (.idx (.var 0) (.cst (.int 2))) (.tup (.cons (.cst (.str (Str.ofString "more"))) (.cons (.tup (.cons (.cst (.str (Str.ofString "num"))) (.cons (.tup (.cons (.cst (.int 0)) (.cons (.cst (.int 1)) .nil))) .nil))) (.cons (.var 2) .nil)))) (.var 2))]⟩
def fn_layers_before : Fn := ⟨2, 6, [.asg (.n 2) (.comp 3 (.rng1 (.idx (.var 0) (.cst (.int 0)))) (.tup (.cons (.cst (.str (Str.ofString "in"))) (.cons (.var 3) .nil)))), .fr (.n 4) (.seq (.slice (.idx (.var 0) (.cst (.int 1))) .none (.some (.var 1)))) [.asg (.n 2) (.comp 5 (.seq (.var 4)) (.call 147 (.cons (.var 5) (.cons (.var 2) .nil))))], .ret (.var 2)]⟩
def fn_term_of : Fn := ⟨1, 1, [.expr (.call 145 (.cons (.var 0) .nil)), .ret (.call 146 (.cons (.idx (.var 0) (.cst (.int 2))) (.cons (.call 148 (.cons (.var 0) (.cons (.blt .len (.cons (.idx (.var 0) (.cst (.int 1))) .nil)) .nil))) .nil)))]⟩
def fn_run_net : Fn := ⟨2, 2, [.expr (.call 145 (.cons (.var 0) .nil)), .expr (.call 15 (.cons (.var 1) .nil)), .ret (.call 21 (.cons (.call 146 (.cons (.idx (.var 0) (.cst (.int 2))) (.cons (.call 148 (.cons (.var 0) (.cons (.blt .len (.cons (.idx (.var 0) (.cst (.int 1))) .nil)) .nil))) .nil))) (.cons (.var 1) .nil)))]⟩
def fn_net_form : Fn := ⟨1, 1, [.expr (.call 145 (.cons (.var 0) .nil)), .ret (.call 71 (.cons (.call 146 (.cons (.idx (.var 0) (.cst (.int 2))) (.cons (.call 148 (.cons (.var 0) (.cons (.blt .len (.cons (.idx (.var 0) (.cst (.int 1))) .nil)) .nil))) .nil))) .nil))]⟩
def fn__law_net : Fn := ⟨2, 12, [.asg (.n 2) (.bin .add (.cst (.int 1)) (.call 25 (.cons (.cv 0) (.cons (.cst (.int 2)) .nil)))), .parV [3, 4, 5] (.cons .nl (.cons (.var 2) (.cons (.var 1) .nil))), .fr (.n 6) (.rng1 (.call 25 (.cons (.cv 0) (.cons (.cst (.int 3)) .nil)))) [.alloc 7 .nil, .fr (.n 8) (.rng1 (.bin .add (.cst (.int 1)) (.call 25 (.cons (.cv 0) (.cons (.cst (.int 3)) .nil))))) [.asg (.n 9) (.blt .tuple (.cons (.comp 10 (.rng1 (.var 4)) (.bin .sub (.call 25 (.cons (.cv 0) (.cons (.cst (.int 5)) .nil))) (.cst (.int 2)))) .nil)), .asg (.n 11) (.and (.cmp .gt (.var 5) (.cst (.int 0))) (.cmp .gt (.call 25 (.cons (.cv 0) (.cons (.cst (.int 4)) .nil))) (.cst (.int 0)))), .asg (.n 5) (.bin .sub (.var 5) (.blt .int (.cons (.var 11) .nil))), .app 7 (.tup (.cons (.var 9) (.cons (.bin .sub (.call 25 (.cons (.cv 0) (.cons (.cst (.int 9)) .nil))) (.cst (.int 4))) (.cons (.var 11) .nil))))], .app 3 (.bltC .tuple 7), .asg (.n 4) (.bltC .len 7)], .asg (.n 9) (.blt .tuple (.cons (.comp 10 (.rng1 (.var 4)) (.bin .sub (.call 25 (.cons (.cv 0) (.cons (.cst (.int 5)) .nil))) (.cst (.int 2)))) .nil)), .ret (.tup (.cons (.var 2) (.cons (.bltC .tuple 3) (.cons (.tup (.cons (.var 9) (.cons (.bin .sub (.call 25 (.cons (.cv 0) (.cons (.cst (.int 9)) .nil))) (.cst (.int 4))) (.cons (.cst (.bool false)) .nil)))) .nil))))]⟩
def fn__law_run : Fn := ⟨2, 12, [.parV [2, 3] (.cons (.comp 4 (.rng1 (.idx (.var 0) (.cst (.int 0)))) (.idx (.var 1) (.var 4))) (.cons .nl .nil)), .fr (.n 5) (.seq (.bin .add (.idx (.var 0) (.cst (.int 1))) (.tup (.cons (.tup (.cons (.idx (.var 0) (.cst (.int 2))) .nil)) .nil)))) [.alloc 6 .nil, .fr (.t [7, 8, 9]) (.seq (.var 5)) [.asg (.n 10) (.tup (.cons (.var 8) (.cons (.cst (.int 1)) .nil))), .fr (.t [4, 11]) (.enum (.var 7)) [.asg (.n 10) (.call 30 (.cons (.var 10) (.cons (.call 31 (.cons (.tup (.cons (.var 11) (.cons (.cst (.int 1)) .nil))) (.cons (.idx (.var 2) (.var 4)) .nil))) .nil)))], .app 6 (.ite (.and (.var 9) (.call 32 (.cons (.var 10) (.cons (.tup (.cons (.cst (.int 0)) (.cons (.cst (.int 1)) .nil))) .nil)))) (.tup (.cons (.cst (.int 0)) (.cons (.cst (.int 1)) .nil))) (.var 10))], .frz 6, .app 3 (.var 6), .asg (.n 2) (.var 6)], .retC 3]⟩
def fn__law_net_out : Fn := ⟨2, 2, [.ret (.idx (.idx (.call 153 (.cons (.var 0) (.cons (.var 1) .nil))) (.neg (.cst (.int 1)))) (.cst (.int 0)))]⟩
def fn__wall : Fn := ⟨1, 1, [.whl (.cst (.bool true)) [.pass] fuel__wall]⟩
def fn_state_of : Fn := ⟨3, 7, [.asg (.n 3) (.idx (.idx (.idx (.var 0) (.cst (.int 1))) (.var 1)) (.var 2)), .iff (.not (.idx (.var 3) (.cst (.int 2)))) [.ret (.cst (.str (Str.ofString "plain")))] [], .asg (.n 4) (.call 146 (.cons (.var 3) (.cons (.call 148 (.cons (.var 0) (.cons (.var 1) .nil))) .nil))), .par 5 6 (.call 71 (.cons (.tup (.cons (.cst (.str (Str.ofString "more"))) (.cons (.tup (.cons (.cst (.str (Str.ofString "num"))) (.cons (.tup (.cons (.cst (.int 0)) (.cons (.cst (.int 1)) .nil))) .nil))) (.cons (.var 4) .nil)))) .nil)) (.call 71 (.cons (.tup (.cons (.cst (.str (Str.ofString "num"))) (.cons (.tup (.cons (.cst (.int 0)) (.cons (.cst (.int 1)) .nil))) .nil))) .nil)), .iff (.cmp .eq (.var 5) (.var 6)) [.ret (.cst (.str (Str.ofString "never")))] [], .ret (.ite (.cmp .eq (.var 5) (.call 71 (.cons (.var 4) .nil))) (.cst (.str (Str.ofString "always"))) (.cst (.str (Str.ofString "cuts"))))]⟩
def fn_states : Fn := ⟨1, 3, [.expr (.call 145 (.cons (.var 0) .nil)), .ret (.blt .tuple (.cons (.comp 2 (.rng1 (.blt .len (.cons (.idx (.var 0) (.cst (.int 1))) .nil))) (.blt .tuple (.cons (.comp 1 (.rng1 (.blt .len (.cons (.idx (.idx (.var 0) (.cst (.int 1))) (.var 2)) .nil))) (.call 156 (.cons (.var 0) (.cons (.var 2) (.cons (.var 1) .nil))))) .nil))) .nil))]⟩
def fn_with_cell : Fn := ⟨4, 5, [.iff (.cmp .eq (.var 1) (.blt .len (.cons (.idx (.var 0) (.cst (.int 1))) .nil))) [.ret (.tup (.cons (.idx (.var 0) (.cst (.int 0))) (.cons (.idx (.var 0) (.cst (.int 1))) (.cons (.var 3) .nil))))] [], .asg (.n 4) (.bin .add (.bin .add (.slice (.idx (.idx (.var 0) (.cst (.int 1))) (.var 1)) .none (.some (.var 2))) (.tup (.cons (.var 3) .nil))) (.slice (.idx (.idx (.var 0) (.cst (.int 1))) (.var 1)) (.some (.bin .add (.var 2) (.cst (.int 1)))) .none)), .ret (.tup (.cons (.idx (.var 0) (.cst (.int 0))) (.cons (.bin .add (.bin .add (.slice (.idx (.var 0) (.cst (.int 1))) .none (.some (.var 1))) (.tup (.cons (.var 4) .nil))) (.slice (.idx (.var 0) (.cst (.int 1))) (.some (.bin .add (.var 1) (.cst (.int 1)))) .none)) (.cons (.idx (.var 0) (.cst (.int 2))) .nil))))]⟩
def fn_cell_at : Fn := ⟨3, 3, [.ret (.ite (.cmp .eq (.var 1) (.blt .len (.cons (.idx (.var 0) (.cst (.int 1))) .nil))) (.idx (.var 0) (.cst (.int 2))) (.idx (.idx (.idx (.var 0) (.cst (.int 1))) (.var 1)) (.var 2)))]⟩
def fn_need_cell : Fn := ⟨3, 3, [.expr (.call 145 (.cons (.var 0) .nil)), .iff (.not (.call 6 (.cons (.var 1) (.cons (.cst (.int 0)) (.cons (.blt .len (.cons (.idx (.var 0) (.cst (.int 1))) .nil)) .nil))))) [.raise 5] [], .iff (.not (.call 6 (.cons (.var 2) (.cons (.cst (.int 0)) (.cons (.ite (.cmp .lt (.var 1) (.blt .len (.cons (.idx (.var 0) (.cst (.int 1))) .nil))) (.bin .sub (.blt .len (.cons (.idx (.idx (.var 0) (.cst (.int 1))) (.var 1)) .nil)) (.cst (.int 1))) (.cst (.int 0))) .nil))))) [.raise 5] []]⟩
def fn_need_weight : Fn := ⟨4, 4, [.expr (.call 160 (.cons (.var 0) (.cons (.var 1) (.cons (.var 2) .nil)))), .iff (.not (.call 6 (.cons (.var 3) (.cons (.cst (.int 0)) (.cons (.bin .sub (.blt .len (.cons (.idx (.call 159 (.cons (.var 0) (.cons (.var 1) (.cons (.var 2) .nil)))) (.cst (.int 0))) .nil)) (.cst (.int 1))) .nil))))) [.raise 5] []]⟩
def fn_with_weight : Fn := ⟨5, 7, [.asg (.n 5) (.call 159 (.cons (.var 0) (.cons (.var 1) (.cons (.var 2) .nil)))), .asg (.n 6) (.bin .add (.bin .add (.slice (.idx (.var 5) (.cst (.int 0))) .none (.some (.var 3))) (.tup (.cons (.var 4) .nil))) (.slice (.idx (.var 5) (.cst (.int 0))) (.some (.bin .add (.var 3) (.cst (.int 1)))) .none)), .ret (.call 158 (.cons (.var 0) (.cons (.var 1) (.cons (.var 2) (.cons (.bin .add (.tup (.cons (.var 6) .nil)) (.slice (.var 5) (.some (.cst (.int 1))) .none)) .nil)))))]⟩
def fn_are_looks : Fn := ⟨1, 2, [.iff (.or (.not (.isi (.var 0) .tuple)) (.not (.chain .le .le (.cst (.int 1)) (.blt .len (.cons (.var 0) .nil)) (.cst (.int 6))))) [.ret (.cst (.bool false))] [], .fr (.n 1) (.seq (.var 0)) [.iff (.or (.not (.isi (.var 1) .tuple)) (.or (.cmp .ne (.blt .len (.cons (.var 1) .nil)) (.cst (.int 2))) (.not (.call 8 (.cons (.idx (.var 1) (.cst (.int 0))) .nil))))) [.ret (.cst (.bool false))] [], .iff (.not (.call 8 (.cons (.tup (.cons (.idx (.var 1) (.cst (.int 1))) (.cons (.idx (.var 1) (.cst (.int 1))) .nil))) .nil))) [.ret (.cst (.bool false))] []], .ret (.cst (.bool true))]⟩
def fn_fits : Fn := ⟨5, 11, [.expr (.call 161 (.cons (.var 0) (.cons (.var 1) (.cons (.var 2) (.cons (.var 3) .nil))))), .iff (.not (.call 163 (.cons (.var 4) .nil))) [.raise 6] [], .alloc 5 .nil, .fr (.n 6) (.rng2 (.neg (.cst (.int 4))) (.cst (.int 5))) [.asg (.n 7) (.call 162 (.cons (.var 0) (.cons (.var 1) (.cons (.var 2) (.cons (.var 3) (.cons (.var 6) .nil)))))), .asg (.n 8) (.call 146 (.cons (.idx (.var 7) (.cst (.int 2))) (.cons (.call 148 (.cons (.var 7) (.cons (.blt .len (.cons (.idx (.var 7) (.cst (.int 1))) .nil)) .nil))) .nil))), .iff (.blt .all (.cons (.compT (.t [9, 10]) (.seq (.var 4)) (.cmp .eq (.call 21 (.cons (.var 8) (.cons (.var 9) .nil))) (.var 10))) .nil)) [.app 5 (.var 6)] []], .ret (.bltC .tuple 5)]⟩
def fn__law_bad_nets : Fn := ⟨1, 6, [.asg (.t [1, 2, 3]) (.var 0), .alloc 4 (.cons (.cst .none) (.cons (.cst (.int 5)) (.cons (.blt .list (.cons (.var 0) .nil)) (.cons (.slice (.var 0) .none (.some (.cst (.int 2)))) (.cons (.tup (.cons (.cst (.int 0)) (.cons (.var 2) (.cons (.var 3) .nil)))) (.cons (.tup (.cons (.cst (.int 3)) (.cons (.var 2) (.cons (.var 3) .nil)))) (.cons (.tup (.cons (.cst (.bool true)) (.cons (.var 2) (.cons (.var 3) .nil)))) .nil))))))), .asg (.n 4) (.binC .add 4 (.lst (.cons (.tup (.cons (.var 1) (.cons (.blt .list (.cons (.var 2) .nil)) (.cons (.var 3) .nil)))) .nil))), .asg (.n 4) (.bin .add (.var 4) (.lst (.cons (.tup (.cons (.var 1) (.cons (.var 2) (.cons (.tup (.cons (.idx (.var 3) (.cst (.int 0))) (.cons (.idx (.var 3) (.cst (.int 1))) (.cons (.cst (.bool true)) .nil)))) .nil)))) .nil))), .asg (.n 4) (.bin .add (.var 4) (.lst (.cons (.tup (.cons (.var 1) (.cons (.var 2) (.cons (.tup (.cons (.bin .add (.idx (.var 3) (.cst (.int 0))) (.tup (.cons (.cst (.int 1)) .nil))) (.cons (.idx (.var 3) (.cst (.int 1))) (.cons (.cst (.bool false)) .nil)))) .nil)))) .nil))), .asg (.n 4) (.bin .add (.var 4) (.lst (.cons (.tup (.cons (.var 1) (.cons (.var 2) (.cons (.tup (.cons (.idx (.var 3) (.cst (.int 0))) (.cons (.cst (.int 10)) (.cons (.cst (.bool false)) .nil)))) .nil)))) (.cons (.tup (.cons (.var 1) (.cons (.var 2) (.cons (.tup (.cons (.blt .list (.cons (.idx (.var 3) (.cst (.int 0))) .nil)) (.cons (.cst (.int 0)) (.cons (.cst (.bool false)) .nil)))) .nil)))) .nil)))), .asg (.n 4) (.bin .add (.var 4) (.lst (.cons (.tup (.cons (.var 1) (.cons (.var 2) (.cons (.slice (.var 3) .none (.some (.cst (.int 2)))) .nil)))) .nil))), .asg (.n 4) (.bin .add (.var 4) (.lst (.cons (.tup (.cons (.var 1) (.cons (.bin .add (.var 2) (.tup (.cons (.tup .nil) .nil))) (.cons (.var 3) .nil)))) (.cons (.tup (.cons (.var 1) (.cons (.var 2) (.cons (.tup (.cons (.bin .mul (.tup (.cons (.cst (.int 5)) .nil)) (.blt .len (.cons (.idx (.var 3) (.cst (.int 0))) .nil))) (.cons (.cst (.int 0)) (.cons (.cst (.bool false)) .nil)))) .nil)))) .nil)))), .asg (.n 4) (.bin .add (.var 4) (.lst (.cons (.tup (.cons (.var 1) (.cons (.var 2) (.cons (.cst .none) .nil)))) .nil))), .asg (.n 5) (.tup (.cons (.bin .mul (.tup (.cons (.cst (.int 1)) .nil)) (.var 1)) (.cons (.cst (.int 0)) (.cons (.cst (.bool true)) .nil)))), .asg (.n 4) (.bin .add (.var 4) (.lst (.cons (.tup (.cons (.var 1) (.cons (.tup (.cons (.bin .mul (.tup (.cons (.var 5) .nil)) (.cst (.int 4))) .nil)) (.cons (.tup (.cons (.bin .mul (.tup (.cons (.cst (.int 1)) .nil)) (.cst (.int 4))) (.cons (.cst (.int 0)) (.cons (.cst (.bool false)) .nil)))) .nil)))) .nil))), .asg (.n 4) (.bin .add (.var 4) (.lst (.cons (.tup (.cons (.var 1) (.cons (.bin .mul (.tup (.cons (.tup (.cons (.var 5) .nil)) .nil)) (.cst (.int 3))) (.cons (.tup (.cons (.tup (.cons (.cst (.int 1)) .nil)) (.cons (.cst (.int 0)) (.cons (.cst (.bool false)) .nil)))) .nil)))) .nil))), .asg (.n 4) (.bin .add (.var 4) (.lst (.cons (.tup (.cons (.var 1) (.cons (.tup (.cons (.tup (.cons (.tup (.cons (.idx (.var 5) (.cst (.int 0))) (.cons (.cst (.int 0)) (.cons (.cst (.int 1)) .nil)))) .nil)) .nil)) (.cons (.tup (.cons (.tup (.cons (.cst (.int 1)) .nil)) (.cons (.cst (.int 0)) (.cons (.cst (.bool false)) .nil)))) .nil)))) .nil))), .asg (.n 4) (.bin .add (.var 4) (.lst (.cons (.tup (.cons (.var 1) (.cons (.tup (.cons (.tup (.cons (.tup (.cons (.idx (.var 5) (.cst (.int 0))) (.cons (.cst (.bool true)) (.cons (.cst (.bool true)) .nil)))) .nil)) .nil)) (.cons (.tup (.cons (.tup (.cons (.cst (.int 1)) .nil)) (.cons (.cst (.int 0)) (.cons (.cst (.bool false)) .nil)))) .nil)))) .nil))), .stk, .ret (.bin .add (.var 4) (.lst (.cons (.tup (.cons (.var 1) (.cons (.tup (.cons (.tup (.cons (.tup (.cons (.bin .mul (.tup (.cons (.cst (.int 1)) .nil)) (.bin .add (.var 1) (.cst (.int 1)))) (.cons (.cst (.int 0)) (.cons (.cst (.bool true)) .nil)))) .nil)) .nil)) (.cons (.tup (.cons (.tup (.cons (.cst (.int 1)) .nil)) (.cons (.cst (.int 0)) (.cons (.cst (.bool false)) .nil)))) .nil)))) .nil)))]⟩
def fn__law_cut : Fn := ⟨1, 2, [.asg (.n 1) (.idx (.idx (.idx (.var 0) (.cst (.int 1))) (.neg (.cst (.int 1)))) (.cst (.int 0))), .ret (.tup (.cons (.idx (.var 0) (.cst (.int 0))) (.cons (.bin .add (.slice (.idx (.var 0) (.cst (.int 1))) .none (.some (.neg (.cst (.int 1))))) (.tup (.cons (.tup (.cons (.tup (.cons (.idx (.var 1) (.cst (.int 0))) (.cons (.idx (.var 1) (.cst (.int 1))) (.cons (.cst (.bool true)) .nil)))) .nil)) .nil))) (.cons (.idx (.var 0) (.cst (.int 2))) .nil))))]⟩
def fn__law_other_net : Fn := ⟨2, 7, [.iff (.or (.cmp .eq (.idx (.var 1) (.cst (.int 1))) (.tup .nil)) (.cmp .lt (.blt .len (.cons (.idx (.idx (.var 1) (.cst (.int 1))) (.neg (.cst (.int 1)))) .nil)) (.cst (.int 2)))) [.ret (.var 1)] [], .par 2 3 (.idx (.idx (.var 1) (.cst (.int 1))) (.neg (.cst (.int 1)))) (.idx (.idx (.var 1) (.cst (.int 2))) (.cst (.int 0))), .asg (.n 4) (.call 25 (.cons (.cv 0) (.cons (.bin .sub (.blt .len (.cons (.var 2) .nil)) (.cst (.int 1))) .nil))), .asg (.n 5) (.bin .add (.bin .add (.slice (.var 2) .none (.some (.var 4))) (.tup (.cons (.idx (.var 2) (.bin .add (.var 4) (.cst (.int 1)))) (.cons (.idx (.var 2) (.var 4)) .nil)))) (.slice (.var 2) (.some (.bin .add (.var 4) (.cst (.int 2)))) .none)), .asg (.n 6) (.bin .add (.bin .add (.slice (.var 3) .none (.some (.var 4))) (.tup (.cons (.idx (.var 3) (.bin .add (.var 4) (.cst (.int 1)))) (.cons (.idx (.var 3) (.var 4)) .nil)))) (.slice (.var 3) (.some (.bin .add (.var 4) (.cst (.int 2)))) .none)), .ret (.tup (.cons (.idx (.var 1) (.cst (.int 0))) (.cons (.bin .add (.slice (.idx (.var 1) (.cst (.int 1))) .none (.some (.neg (.cst (.int 1))))) (.tup (.cons (.var 5) .nil))) (.cons (.bin .add (.tup (.cons (.var 6) .nil)) (.slice (.idx (.var 1) (.cst (.int 2))) (.some (.cst (.int 1))) .none)) .nil))))]⟩
def fn__law_with : Fn := ⟨5, 8, [.asg (.n 5) (.ite (.cmp .eq (.var 1) (.blt .len (.cons (.idx (.var 0) (.cst (.int 1))) .nil))) (.idx (.var 0) (.cst (.int 2))) (.idx (.idx (.idx (.var 0) (.cst (.int 1))) (.var 1)) (.var 2))), .asg (.n 6) (.bin .add (.tup (.cons (.bin .add (.bin .add (.slice (.idx (.var 5) (.cst (.int 0))) .none (.some (.var 3))) (.tup (.cons (.var 4) .nil))) (.slice (.idx (.var 5) (.cst (.int 0))) (.some (.bin .add (.var 3) (.cst (.int 1)))) .none)) .nil)) (.slice (.var 5) (.some (.cst (.int 1))) .none)), .iff (.cmp .eq (.var 1) (.blt .len (.cons (.idx (.var 0) (.cst (.int 1))) .nil))) [.ret (.tup (.cons (.idx (.var 0) (.cst (.int 0))) (.cons (.idx (.var 0) (.cst (.int 1))) (.cons (.var 6) .nil))))] [], .asg (.n 7) (.bin .add (.bin .add (.slice (.idx (.idx (.var 0) (.cst (.int 1))) (.var 1)) .none (.some (.var 2))) (.tup (.cons (.var 6) .nil))) (.slice (.idx (.idx (.var 0) (.cst (.int 1))) (.var 1)) (.some (.bin .add (.var 2) (.cst (.int 1)))) .none)), .ret (.tup (.cons (.idx (.var 0) (.cst (.int 0))) (.cons (.bin .add (.bin .add (.slice (.idx (.var 0) (.cst (.int 1))) .none (.some (.var 1))) (.tup (.cons (.var 7) .nil))) (.slice (.idx (.var 0) (.cst (.int 1))) (.some (.bin .add (.var 1) (.cst (.int 1)))) .none)) (.cons (.idx (.var 0) (.cst (.int 2))) .nil))))]⟩
def fn__law_set : Fn := ⟨5, 10, [.iff (.not (.chain .le .le (.cst (.int 0)) (.var 1) (.blt .len (.cons (.idx (.var 0) (.cst (.int 1))) .nil)))) [.ret (.cst .none)] [], .asg (.n 5) (.ite (.cmp .eq (.var 1) (.blt .len (.cons (.idx (.var 0) (.cst (.int 1))) .nil))) (.tup (.cons (.idx (.var 0) (.cst (.int 2))) .nil)) (.idx (.idx (.var 0) (.cst (.int 1))) (.var 1))), .iff (.not (.chain .le .lt (.cst (.int 0)) (.var 2) (.blt .len (.cons (.var 5) .nil)))) [.ret (.cst .none)] [], .asg (.t [6, 7, 8]) (.idx (.var 5) (.var 2)), .iff (.cmp .isn (.var 3) (.cst .none)) [.asg (.n 9) (.tup (.cons (.var 6) (.cons (.var 4) (.cons (.var 8) .nil))))] [.iff (.chain .le .lt (.cst (.int 0)) (.var 3) (.blt .len (.cons (.var 6) .nil))) [.asg (.n 9) (.tup (.cons (.bin .add (.bin .add (.slice (.var 6) .none (.some (.var 3))) (.tup (.cons (.var 4) .nil))) (.slice (.var 6) (.some (.bin .add (.var 3) (.cst (.int 1)))) .none)) (.cons (.var 7) (.cons (.var 8) .nil))))] [.ret (.cst .none)]], .iff (.cmp .eq (.var 1) (.blt .len (.cons (.idx (.var 0) (.cst (.int 1))) .nil))) [.ret (.tup (.cons (.idx (.var 0) (.cst (.int 0))) (.cons (.idx (.var 0) (.cst (.int 1))) (.cons (.var 9) .nil))))] [], .ret (.tup (.cons (.idx (.var 0) (.cst (.int 0))) (.cons (.bin .add (.bin .add (.slice (.idx (.var 0) (.cst (.int 1))) .none (.some (.var 1))) (.tup (.cons (.bin .add (.bin .add (.slice (.var 5) .none (.some (.var 2))) (.tup (.cons (.var 9) .nil))) (.slice (.var 5) (.some (.bin .add (.var 2) (.cst (.int 1)))) .none)) .nil))) (.slice (.idx (.var 0) (.cst (.int 1))) (.some (.bin .add (.var 1) (.cst (.int 1)))) .none)) (.cons (.idx (.var 0) (.cst (.int 2))) .nil))))]⟩
def fn__law_deed : Fn := ⟨6, 6, [.iff (.cmp .eq (.var 1) (.cst (.str (Str.ofString "weight")))) [.stk] [], .iff (.cmp .eq (.var 1) (.cst (.str (Str.ofString "start")))) [.stk] [], .iff (.cmp .eq (.var 1) (.cst (.str (Str.ofString "undo")))) [.stk] [], .stk]⟩
def fn__law_put : Fn := ⟨3, 4, [.iff (.cmp .eq (.idx (.var 0) (.cst (.int 0))) (.cst (.str (Str.ofString "in")))) [.ret (.ite (.cmp .eq (.idx (.var 0) (.cst (.int 1))) (.cst (.int 1))) (.var 2) (.var 1))] [], .iff (.cmp .eq (.idx (.var 0) (.cst (.int 0))) (.cst (.str (Str.ofString "num")))) [.ret (.var 0)] [], .iff (.cmp .eq (.idx (.var 0) (.cst (.int 0))) (.cst (.str (Str.ofString "times")))) [.ret (.tup (.cons (.cst (.str (Str.ofString "times"))) (.cons (.idx (.var 0) (.cst (.int 1))) (.cons (.call 171 (.cons (.idx (.var 0) (.cst (.int 2))) (.cons (.var 1) (.cons (.var 2) .nil)))) .nil))))] [], .ret (.bin .add (.tup (.cons (.idx (.var 0) (.cst (.int 0))) .nil)) (.blt .tuple (.cons (.comp 3 (.seq (.slice (.var 0) (.some (.cst (.int 1))) .none)) (.call 171 (.cons (.var 3) (.cons (.var 1) (.cons (.var 2) .nil))))) .nil)))]⟩
def fn__law_moved : Fn := ⟨3, 3, [.iff (.cmp .isn (.var 0) (.cst .none)) [.ret (.cst .none)] [], .ret (.tup (.cons (.call 30 (.cons (.idx (.var 0) (.cst (.int 0))) (.cons (.tup (.cons (.var 1) (.cons (.cst (.int 1)) .nil))) .nil))) (.cons (.call 30 (.cons (.idx (.var 0) (.cst (.int 1))) (.cons (.tup (.cons (.var 2) (.cons (.cst (.int 1)) .nil))) .nil))) .nil)))]⟩
def fn__law_met : Fn := ⟨1, 2, [.stk, .ret (.cst .none)]⟩
def fn__law_alone : Fn := ⟨2, 4, [.stk, .stk, .stk, .stk, .stk, .stk]⟩
def tbl : List (Nat × FnT) := [(1, .df fn_divisor), (2, .df fn_lowest), (3, .df fn_plus), (4, .df fn_times), (5, .df fn_is_less), (6, .df fn_is_whole), (7, .df fn_is_fraction), (8, .df fn_is_point), (9, .df fn_is_shaped), (10, .df fn_parts_of), (11, .df fn_count_of), (12, .df fn_cuts_of), (13, .df fn_is_term), (14, .df fn_need_term), (15, .df fn_need_point), (16, .df fn_straight_at), (17, .df fn_summed), (18, .df fn_scaled), (19, .df fn_is_under), (20, .df fn_piece_of), (21, .df fn_value_of), (22, .df fn_value), (23, .df fn__law_cell), (24, .df fn__law_drawn), (25, .df fn__law_roll), (26, .df fn__law_rounds), (27, .df fn__law_term), (28, .df fn__law_told), (29, .df fn__law_low), (30, .df fn__law_plus), (31, .df fn__law_times), (32, .df fn__law_below), (33, .df fn__law_out), (34, .df fn__law_fraction), (35, .df fn__law_straight), (36, .df fn__law_made), (37, .df fn__law_any), (38, .df fn__law_point), (39, .df fn__law_whole_point), (40, .df fn_fraction_text), (41, .df fn_written), (42, .df fn_format_term), (43, .df fn_parse_term), (44, .df fn__law_text), (45, .df fn_minus), (46, .df fn_middle), (47, .df fn_ordered), (48, .df fn_rising), (49, .df fn_count_parts), (50, .df fn_count_cuts), (51, .df fn_line_of), (52, .df fn_is_upright), (53, .df fn_height), (54, .df fn_crossing), (55, .df fn_places_of), (56, .df fn_between), (57, .df fn_sorted_lines), (58, .df fn_strips_of), (59, .df fn_points_in), (60, .df fn_all_points), (61, .df fn_functions_in), (62, .df fn_level_functions), (63, .df fn_function_at), (64, .df fn_upright_stretches), (65, .df fn_point_on), (66, .df fn_border_key), (67, .df fn_borders_of), (68, .df fn_unequal_lines), (69, .df fn_joined), (70, .df fn_lines_of), (71, .df fn_form_of), (72, .df fn_need_two), (73, .df fn_same), (74, .df fn__law_parts), (75, .df fn__law_bad_terms), (76, .df fn_form), (77, .df fn__law_minus), (78, .df fn__law_of), (79, .df fn__law_on_line), (80, .df fn__law_is_on), (81, .df fn__law_between), (82, .df fn__law_shares), (83, .df fn__law_inner), (84, .df fn__law_apart), (85, .df fn__law_ahead), (86, .df fn_size), (87, .df fn_greatest), (88, .df fn_more_points), (89, .df fn_pieces_of), (90, .df fn_pieces), (91, .df fn_parting_of), (92, .df fn_parting), (93, .df fn_is_up), (94, .df fn_is_upward), (95, .df fn_steepest), (96, .df fn__law_rewritten), (97, .df fn__law_changed), (98, .df fn_is_never_above), (99, .df fn_exceeding), (100, .df fn_is_on), (101, .df fn_is_within), (102, .df fn_piece), (103, .df fn_round_about), (104, .df fn_left_turn), (105, .df fn_is_polygon), (106, .df fn_need_polygon), (107, .df fn_sides_of), (108, .df fn_is_inside), (109, .df fn_corners_of), (110, .df fn_candidates), (111, .df fn_best_of), (112, .df fn_least_over), (113, .df fn_greatest_over), (114, .df fn__law_polygon), (115, .df fn__law_mixed), (116, .df fn__law_in_polygon), (117, .df fn_over), (118, .df fn_reached), (119, .df fn_at_share), (120, .df fn_shares_on), (121, .df fn_distance), (122, .df fn_guides), (123, .df fn_level_lines), (124, .df fn_meeting_points), (125, .df fn_drop), (126, .df fn__law_far), (127, .df fn_is_downward), (128, .df fn__law_beside), (129, .df fn_need_one), (130, .df fn_place_of), (131, .df fn_bends_of), (132, .df fn_in_sequence), (133, .df fn_bends), (134, .df fn_straight_term), (135, .df fn_one_layer), (136, .df fn_stretches_of), (137, .df fn_places_with), (138, .df fn__law_slope), (139, .df fn__law_flat_places), (140, .df fn__law_holds), (141, .df fn_rises), (142, .df fn__law_slope_at), (143, .df fn_is_cell), (144, .df fn_is_net), (145, .df fn_need_net), (146, .df fn_cell_sum), (147, .df fn_cell_term), (148, .df fn_layers_before), (149, .df fn_term_of), (150, .df fn_run_net), (151, .df fn_net_form), (152, .df fn__law_net), (153, .df fn__law_run), (154, .df fn__law_net_out), (155, .df fn__wall), (156, .df fn_state_of), (157, .df fn_states), (158, .df fn_with_cell), (159, .df fn_cell_at), (160, .df fn_need_cell), (161, .df fn_need_weight), (162, .df fn_with_weight), (163, .df fn_are_looks), (164, .df fn_fits), (165, .df fn__law_bad_nets), (166, .df fn__law_cut), (167, .df fn__law_other_net), (168, .df fn__law_with), (169, .df fn__law_set), (170, .df fn__law_deed), (171, .df fn__law_put), (172, .df fn__law_moved), (173, .df fn__law_met), (174, .df fn__law_alone)]
def tb : Tb := fun f => tbl.lookup f
end Mp

set_option maxRecDepth 100000
/-! Hs: the head's run asked in parts. -/
namespace Mp
open PySem PySem.W He
theorem obsX_app {n : Nat} {fa fb : List Fa} {fn fm : List DefD} {tf : List Defn} {ex : PySem.W.Frag → Bool} {w : World} {g : Addr → Option Obj}
    (h1 : obsX n fa fn [] [] (fun _ => true) g = valX fn [] w) (h2 : obsX n fb fm [] tf ex g = valX fm [] w) : obsX n (fa ++ fb) (fn ++ fm) [] tf ex g = valX (fn ++ fm) [] w := by
  have a1 := congrArg (fun z : AlX => z.1.1) h1
  have a2 := congrArg (fun z : AlX => z.1.1) h2
  have b2 := congrArg (fun z : AlX => z.2) h2
  have a1 : obsD fa fn (frT g (asD g n)) = valD fn := a1
  have a2 : obsD fb fm (frT g (asD g n)) = valD fm := a2
  have p1 : ((fa.all fun f => f.ok (frT g (asD g n))) && fn.all fun d => d.ok (frT g (asD g n))) = true := congrArg (fun z : AlD => z.1) a1
  have p2 : ((fb.all fun f => f.ok (frT g (asD g n))) && fm.all fun d => d.ok (frT g (asD g n))) = true := congrArg (fun z : AlD => z.1) a2
  have q1 : fn.map (fun d => fnW (frT g (asD g n)) d.at_) = fn.map DefD.val := congrArg (fun z : AlD => z.2) a1
  have q2 : fm.map (fun d => fnW (frT g (asD g n)) d.at_) = fm.map DefD.val := congrArg (fun z : AlD => z.2) a2
  rw [Bool.and_eq_true] at p1 p2
  have e : obsD (fa ++ fb) (fn ++ fm) (frT g (asD g n)) = valD (fn ++ fm) := by
    unfold obsD valD
    rw [List.all_append, List.all_append, p1.1, p1.2, p2.1, p2.2, List.map_append, List.map_append, q1, q2]
    rfl
  show ((obsD (fa ++ fb) (fn ++ fm) (frT g (asD g n)), _), _) = _
  rw [e]
  exact congrArg (fun z => ((valD (fn ++ fm), []), z)) b2
theorem obsX_at {n : Nat} {fa : List Fa} {fn : List DefD} {tf : List Defn} {ex : PySem.W.Frag → Bool} {w : World} {g : Addr → Option Obj} (k j : Nat)
    (h1 : obsX n (fa.take k) (fn.take j) [] [] (fun _ => true) g = valX (fn.take j) [] w) (h2 : obsX n (fa.drop k) (fn.drop j) [] tf ex g = valX (fn.drop j) [] w) : obsX n fa fn [] tf ex g = valX fn [] w := by
  have h := obsX_app h1 h2
  rw [List.take_append_drop, List.take_append_drop] at h
  exact h
theorem map_two {α β γ : Type} {E : Option α} {f : α → β} {g : α → γ} {b : β} {c : γ} (h1 : E.map f = some b) (h2 : E.map g = some c) : E.map (fun s => (f s, g s)) = some (b, c) := by
  cases E with
  | none => cases h1
  | some s =>
    have h1 : f s = b := Option.some.inj h1
    have h2 : g s = c := Option.some.inj h2
    show some (f s, g s) = _
    rw [h1, h2]
theorem map_at {α β γ δ : Type} {E : Option α} {f : α → β} {g : α → γ} {p : α → δ} {b : β} {c : γ} {d : δ} (h1 : E.map f = some b) (h2 : E.map g = some c) (h : ∀ s, f s = b → g s = c → p s = d) : E.map p = some d := by
  cases E with
  | none => cases h1
  | some s => exact congrArg some (h s (Option.some.inj h1) (Option.some.inj h2))
/-- the run's end -/
noncomputable abbrev topEnd (r : OpenRow) (M : Nat) (w : World) (os : OsState) : Option SharedT := HandSHeadRun.endF (HandSHeadRun.stepQ (HandSHeadRun.denQ HandSHeadRun.tabQ) r.prog w) M r.prog w os
theorem run_parts {r : OpenRow} {q : Program} {H : Hook} {ob : SharedT → H.α} {M : Nat} {loose : List PySem.Str} {w : World}
    (h1 : ∀ os, (topEnd r M w os).map (fun s => (HandSHeadRun.looksF r.prog (boot_heap w.params) s.abs, HandSHeadRun.seenQ q loose (importedModules r.prog.main.body) (fun s => xlAt q [] s && recOk r.toRowW.records s) s.abs)) = some (true, openGood q loose))
    (h2 : ∀ os, (topEnd r M w os).map ob = some (H.val w)) : HandSHeadRun.RunEq r q H ob M loose w := fun os =>
  map_at (h1 os) (h2 os) fun s e1 e2 => by
    have e3 : HandSHeadRun.looksF r.prog (boot_heap w.params) s.abs = true := congrArg Prod.fst e1
    have e4 : HandSHeadRun.seenQ q loose (importedModules r.prog.main.body) (fun s => xlAt q [] s && recOk r.toRowW.records s) s.abs = openGood q loose := congrArg Prod.snd e1
    rw [e3, e4, e2]
end Mp

set_option maxRecDepth 100000
set_option maxHeartbeats 0
namespace K03
open PySem PySem.Spec PyProof.Rows L2 Mp
def top (i : Nat) : Stmt := PySem.Challenge.pw_bentnets_k03_whole_terms.main.body.getD i (.Pass ⟨0, 0, 0, 0⟩)
def rows0 : List DR := [⟨1, "divisor", ["one", "other"], ["one", "other"], 14⟩,
  ⟨2, "lowest", ["top", "bottom"], ["top", "bottom", "common"], 15⟩,
  ⟨3, "plus", ["one", "other"], ["one", "other"], 16⟩,
  ⟨4, "times", ["one", "other"], ["one", "other"], 18⟩,
  ⟨5, "is_less", ["one", "other"], ["one", "other"], 19⟩,
  ⟨6, "is_whole", ["value", "low", "high"], ["value", "low", "high"], 23⟩,
  ⟨7, "is_fraction", ["value", "most"], ["value", "most"], 24⟩,
  ⟨9, "is_shaped", ["value", "deep"], ["value", "deep"], 28⟩,
  ⟨10, "parts_of", ["term"], ["term"], 29⟩,
  ⟨11, "count_of", ["term"], ["term", "one"], 30⟩,
  ⟨12, "cuts_of", ["term"], ["term", "one"], 31⟩,
  ⟨13, "is_term", ["value"], ["value"], 32⟩]
def rows1 : List DR := [⟨14, "need_term", ["term"], ["term"], 33⟩,
  ⟨16, "straight_at", ["function", "point"], ["function", "point"], 49⟩,
  ⟨17, "summed", ["one", "other"], ["one", "other", "at"], 50⟩,
  ⟨18, "scaled", ["function", "factor"], ["function", "factor", "one"], 51⟩,
  ⟨19, "is_under", ["one", "other", "point"], ["one", "other", "point", "rows", "first", "last"], 52⟩,
  ⟨20, "piece_of", ["term", "point"], ["term", "point", "one", "other"], 53⟩,
  ⟨24, "_law_drawn", ["cell", "k"], ["cell", "k", "more"], 72⟩,
  ⟨25, "_law_roll", ["dice", "many"], ["dice", "many", "told"], 73⟩,
  ⟨29, "_law_low", ["top", "bottom"], ["top", "bottom", "one", "other"], 77⟩,
  ⟨34, "_law_fraction", ["dice", "most"], ["dice", "most", "bottom"], 78⟩,
  ⟨35, "_law_straight", ["dice", "both"], ["dice", "both", "found"], 79⟩,
  ⟨36, "_law_made", ["dice", "cuts", "both"], ["dice", "cuts", "both", "kind", "few"], 80⟩]
def rows2 : List DR := [⟨37, "_law_any", ["dice", "cuts"], ["dice", "cuts", "made"], 81⟩,
  ⟨45, "minus", ["one", "other"], ["one", "other"], 17⟩,
  ⟨46, "middle", ["one", "other"], ["one", "other"], 20⟩,
  ⟨47, "ordered", ["rows", "keys"], ["rows", "keys", "most", "key", "number", "ranks", "at"], 21⟩,
  ⟨48, "rising", ["numbers"], ["numbers", "found", "number", "one"], 22⟩,
  ⟨49, "count_parts", ["term"], ["term"], 34⟩,
  ⟨50, "count_cuts", ["term"], ["term"], 35⟩,
  ⟨51, "line_of", ["function"], ["function", "bottom", "some", "one", "common"], 37⟩,
  ⟨52, "is_upright", ["line"], ["line"], 38⟩,
  ⟨53, "height", ["line", "place"], ["line", "place"], 39⟩,
  ⟨54, "crossing", ["line", "other"], ["line", "other", "bottom", "across"], 40⟩,
  ⟨55, "places_of", ["lines"], ["lines", "found", "line", "at", "other", "point"], 41⟩]
def rows3 : List DR := [⟨56, "between", ["low", "high"], ["low", "high"], 42⟩,
  ⟨57, "sorted_lines", ["lines", "place"], ["lines", "place", "some", "line"], 43⟩,
  ⟨58, "strips_of", ["lines"], ["lines", "places", "found", "at", "start", "end"], 44⟩,
  ⟨59, "points_in", ["strip"], ["strip", "place", "levels", "line", "at"], 45⟩,
  ⟨60, "all_points", ["lines"], ["lines", "found", "strip"], 46⟩,
  ⟨61, "functions_in", ["term", "strip"], ["term", "strip", "point"], 56⟩,
  ⟨62, "level_functions", ["strip", "functions", "place"], ["strip", "functions", "place", "line"], 57⟩,
  ⟨63, "function_at", ["levels", "functions", "level"], ["levels", "functions", "level", "found", "at", "low"], 58⟩,
  ⟨64, "upright_stretches", ["stretches", "place", "before", "after"], ["stretches", "place", "before", "after", "levels", "at", "level", "left", "right"], 59⟩,
  ⟨65, "point_on", ["line", "place"], ["line", "place"], 60⟩,
  ⟨66, "border_key", ["border"], ["border", "line", "one", "start"], 61⟩,
  ⟨67, "borders_of", ["term", "lines"], ["term", "lines", "slanted", "upright", "before", "base", "strip", "functions", "at", "line", "sides", "one", "some", "found", "above", "below", "start", "end", "place", "left", "right", "low", "high"], 62⟩]
def rows4 : List DR := [⟨68, "unequal_lines", ["term", "lines"], ["term", "lines", "found", "point", "one", "other", "line"], 63⟩,
  ⟨69, "joined", ["some"], ["some"], 64⟩,
  ⟨70, "lines_of", ["term"], ["term", "some", "part", "border"], 65⟩,
  ⟨71, "form_of", ["term"], ["term", "base", "borders"], 66⟩,
  ⟨72, "need_two", ["term", "other"], ["term", "other"], 68⟩,
  ⟨73, "same", ["term", "other"], ["term", "other"], 69⟩,
  ⟨74, "_law_parts", ["term"], ["term", "found", "part"], 82⟩,
  ⟨75, "_law_bad_terms", ["term"], ["term", "bad", "deep", "turn"], 83⟩]
def rows : List DR := rows0 ++ rows1 ++ rows2 ++ rows3 ++ rows4
def lb : List MS := [.asg (.n 2) (.call 37 (.cons (.cv 1) (.cons (.cst (.int 4)) .nil))), .asg (.n 3) (.call 74 (.cons (.var 2) .nil)), .iff (.or (.not (.call 13 (.cons (.var 2) .nil))) (.cmp .ne (.call 49 (.cons (.var 2) .nil)) (.blt .len (.cons (.var 3) .nil)))) [.ret (.cst (.bool false))] [], .iff (.cmp .ne (.call 50 (.cons (.var 2) .nil)) (.blt .len (.cons (.compIf 4 (.seq (.var 3)) (.cmp .inn (.idx (.var 4) (.cst (.int 0))) (.tup (.cons (.cst (.str (Str.ofString "more"))) (.cons (.cst (.str (Str.ofString "less"))) (.cons (.cst (.str (Str.ofString "size"))) .nil))))) (.var 4)) .nil))) [.ret (.cst (.bool false))] [], .fr (.n 5) (.seq (.call 75 (.cons (.var 2) .nil))) [.iff (.or (.call 13 (.cons (.var 5) .nil)) (.cmp .ne (.told (.call 50 (.cons (.var 5) .nil))) (.tup (.cons (.cst (.str (Str.ofString "error"))) (.cons (.cst (.str (Str.ofString "InvalidTerm"))) .nil))))) [.ret (.cst (.bool false))] [], .iff (.cmp .ne (.told (.call 73 (.cons (.tup (.cons (.cst (.str (Str.ofString "in"))) (.cons (.cst (.int 0)) .nil))) (.cons (.var 5) .nil)))) (.tup (.cons (.cst (.str (Str.ofString "error"))) (.cons (.cst (.str (Str.ofString "InvalidTerm"))) .nil)))) [.ret (.cst (.bool false))] []], .asg (.n 6) (.tup (.cons (.cst (.str (Str.ofString "in"))) (.cons (.cst (.int 0)) .nil))), .fr (.n 7) (.rng1 (.cst (.int 19))) [.asg (.n 6) (.tup (.cons (.cst (.str (Str.ofString "add"))) (.cons (.var 6) (.cons (.tup (.cons (.cst (.str (Str.ofString "in"))) (.cons (.cst (.int 1)) .nil))) .nil))))], .iff (.or (.not (.call 13 (.cons (.var 6) .nil))) (.or (.cmp .ne (.call 49 (.cons (.var 6) .nil)) (.cst (.int 39))) (.call 13 (.cons (.tup (.cons (.cst (.str (Str.ofString "add"))) (.cons (.var 6) (.cons (.tup (.cons (.cst (.str (Str.ofString "num"))) (.cons (.tup (.cons (.cst (.int 0)) (.cons (.cst (.int 1)) .nil))) .nil))) .nil)))) .nil)))) [.ret (.cst (.bool false))] [], .asg (.n 8) (.tup (.cons (.cst (.str (Str.ofString "in"))) (.cons (.cst (.int 1)) .nil))), .fr (.n 7) (.rng1 (.cst (.int 14))) [.asg (.n 8) (.tup (.cons (.cst (.str (Str.ofString "add"))) (.cons (.var 8) (.cons (.tup (.cons (.cst (.str (Str.ofString "in"))) (.cons (.cst (.int 0)) .nil))) .nil))))], .iff (.or (.cmp .ne (.call 49 (.cons (.tup (.cons (.cst (.str (Str.ofString "add"))) (.cons (.var 8) (.cons (.var 8) .nil)))) .nil)) (.cst (.int 59))) (.call 13 (.cons (.tup (.cons (.cst (.str (Str.ofString "add"))) (.cons (.tup (.cons (.cst (.str (Str.ofString "add"))) (.cons (.var 8) (.cons (.var 8) .nil)))) (.cons (.var 8) .nil)))) .nil))) [.ret (.cst (.bool false))] [], .asg (.n 9) (.tup (.cons (.cst (.str (Str.ofString "size"))) (.cons (.tup (.cons (.cst (.str (Str.ofString "size"))) (.cons (.tup (.cons (.cst (.str (Str.ofString "more"))) (.cons (.tup (.cons (.cst (.str (Str.ofString "in"))) (.cons (.cst (.int 0)) .nil))) (.cons (.tup (.cons (.cst (.str (Str.ofString "less"))) (.cons (.tup (.cons (.cst (.str (Str.ofString "in"))) (.cons (.cst (.int 0)) .nil))) (.cons (.tup (.cons (.cst (.str (Str.ofString "in"))) (.cons (.cst (.int 1)) .nil))) .nil)))) .nil)))) .nil))) .nil))), .iff (.or (.not (.call 13 (.cons (.var 9) .nil))) (.or (.cmp .ne (.call 50 (.cons (.var 9) .nil)) (.cst (.int 4))) (.call 13 (.cons (.tup (.cons (.cst (.str (Str.ofString "size"))) (.cons (.var 9) .nil))) .nil)))) [.ret (.cst (.bool false))] []]
def NL : List Str := ["script", "dice", "term", "some", "one", "bad", "wide", "turn", "half", "four"]
def R : Mp.Row := ⟨top, rows, [(0, "MOST_PARTS", 60), (1, "MOST_CUTS", 4)], [(2, "NOTHING", (.tuple [(.tuple [(.int 0), (.int 1)]), (.tuple [(.int 0), (.int 1)]), (.tuple [(.int 0), (.int 1)])]))], ["len", "abs", "min", "max", "sum", "int", "str", "isinstance", "tuple", "sorted", "set", "range", "enumerate", "bool", "list", "ValueError"], 71, 74, 75, 76, 84, NL, 1, 4, true, lb⟩
theorem okR : R.ok tb = true := by decide +kernel
def loose0 : List PySem.Str := ["BentError", "InvalidTerm", "InvalidNet", "InvalidPoint", "InvalidNumber", "InvalidPolygon", "InvalidCell", "InvalidLooks", "InvalidText", "OnBorder", "NotOne", "NothingToUndo", "divisor", "lowest", "plus", "minus", "times", "is_less", "middle", "ordered", "rising", "is_whole", "is_fraction", "MOST_PARTS", "MOST_CUTS", "is_shaped", "parts_of", "count_of", "cuts_of", "is_term"]
def loose1 : List PySem.Str := ["need_term", "count_parts", "count_cuts", "line_of", "is_upright", "height", "crossing", "places_of", "between", "sorted_lines", "strips_of", "points_in", "all_points", "NOTHING", "straight_at", "summed", "scaled", "is_under", "piece_of", "Stretches", "functions_in", "level_functions", "function_at", "upright_stretches", "point_on", "border_key", "borders_of", "unequal_lines", "joined", "lines_of"]
def loose2 : List PySem.Str := ["form_of", "need_two", "same", "_law_cell", "_law_drawn", "_law_roll", "_law_rounds", "_law_term", "_law_told", "_law_low", "_law_fraction", "_law_straight", "_law_made", "_law_any", "_law_parts", "_law_bad_terms"]
def loose : List PySem.Str := loose0 ++ loose1 ++ loose2
abbrev OR : PySem.W.OpenRow := PySem.W.OpenLaw.row PySem.Challenge.rw_bentnets_k03_whole_terms
abbrev hk : PySem.W.Hook := He.hookX 5 R.fa R.fn [] R.tf R.ex
def ob (s : PySem.W.SharedT) : He.AlX := He.obsX 5 R.fa R.fn [] R.tf R.ex (HandSHeadRun.getT s)
theorem ob_eq (s : PySem.W.SharedT) : ob s = hk.obs s.abs := He.obsX_eq (HandSHeadRun.getT_eq s)
theorem run0 (w : World) (os : OsState) : (Mp.topEnd OR 20000 w os).map (fun s => (HandSHeadRun.looksF OR.prog (PySem.W.boot_heap w.params) s.abs, HandSHeadRun.seenQ (PySem.W.view OR.prog [84]) loose (importedModules OR.prog.main.body) (fun s => PySem.W.xlAt (PySem.W.view OR.prog [84]) [] s && PySem.W.recOk OR.toRowW.records s) s.abs)) = some (true, PySem.W.openGood (PySem.W.view OR.prog [84]) loose) := by
  kernel_rfl
theorem run1 (w : World) (os : OsState) : (Mp.topEnd OR 20000 w os).map (fun s => He.obsX 5 (R.fa.take 39) (R.fn.take 21) [] [] (fun _ => true) (HandSHeadRun.getT s)) = some (He.valX (R.fn.take 21) [] w) := by
  kernel_rfl
theorem run2 (w : World) (os : OsState) : (Mp.topEnd OR 20000 w os).map (fun s => He.obsX 5 ((R.fa.drop 39).take 39) ((R.fn.drop 21).take 21) [] [] (fun _ => true) (HandSHeadRun.getT s)) = some (He.valX ((R.fn.drop 21).take 21) [] w) := by
  kernel_rfl
theorem run3 (w : World) (os : OsState) : (Mp.topEnd OR 20000 w os).map (fun s => He.obsX 5 ((R.fa.drop 39).drop 39) ((R.fn.drop 21).drop 21) [] R.tf R.ex (HandSHeadRun.getT s)) = some (He.valX ((R.fn.drop 21).drop 21) [] w) := by
  kernel_rfl
theorem run (w : World) : HandSHeadRun.RunEq OR (PySem.W.view OR.prog [84]) hk ob 20000 loose w := Mp.run_parts (run0 w) fun os => by
  show (Mp.topEnd OR 20000 w os).map (fun s => He.obsX 5 R.fa R.fn [] R.tf R.ex (HandSHeadRun.getT s)) = some (He.valX R.fn [] w)
  exact Mp.map_at (run1 w os) (Mp.map_at (run2 w os) (run3 w os) fun s e1 e2 => Mp.obsX_at 39 21 e1 e2) fun s e1 e2 => Mp.obsX_at 39 21 e1 e2
end K03
open PySem PySem.W PySem.Calls PyProof.Rows in
theorem K03.ends (n : Nat) (hn : n + 3 ≤ 200) (hrun : ∀ c : Int, Builtin.Int.intBits c ≤ 1048576 → ∃ en μ, Mp.exs K03.R.G (Mp.callN K03.R.G Mp.tb n) K03.R.lb (Mp.en0 K03.R.N K03.R.di) [.lst [.int c, .int 0]] = some (.next en μ)) : PySem.Challenge.rw_bentnets_k03_whole_terms.Holds := by
  w_on; o_law
  refine HandSHeadRun.head_any (r := OpenLaw.row PySem.Challenge.rw_bentnets_k03_whole_terms) (q := view (OpenLaw.row PySem.Challenge.rw_bentnets_k03_whole_terms).prog [84]) (H := K03.hk) (ob := K03.ob) (M := 20000) (loose := K03.loose) (d := HandSHeadRun.topDef (OpenLaw.row PySem.Challenge.rw_bentnets_k03_whole_terms).prog 84) (kwd := []) K03.ob_eq
    (by kernel_rfl) (fun s => by kernel_rfl) K03.run (by kernel_rfl) (by kernel_rfl) (by kernel_rfl) (by rfl) (by first | assumption | decide +kernel) (by decide +kernel) ⟨rfl, rfl, rfl, rfl, rfl, by decide +kernel⟩ ?hw ?hc
  case hw => w_witness2
  case hc =>
    refine LamX.walk_ofTsE (l := PySem.Challenge.rw_bentnets_k03_whole_terms) (n := 63) (k := n + 3) (x := "script") (CX := fun w => L2N.CX (PySem.Challenge.rw_bentnets_k03_whole_terms).prog w) rfl (by decide) (by kernel_rfl) (Mp.roomC hn) ?F (fun w H s e s' z => Mp.noCX z)
    intro w mg fa h Y G hmg0
    obtain ⟨K, KX, c⟩ := Y
    have hmg : mg ("law" : PySem.Str) = some (.ref fa) := by
      have e : (HandSHeadRun.topDef (OpenLaw.row PySem.Challenge.rw_bentnets_k03_whole_terms).prog 84).name = ("law" : PySem.Str) := by kernel_rfl
      rw [← e]
      exact hmg0
    exact ⟨K, KX, Mp.row_at K03.okR KX G hmg c hrun⟩

set_option maxRecDepth 100000
set_option maxHeartbeats 4000000
/-! Pu0: runs told, first things. -/
namespace Mp
open PySem L2
def fin (μ : Store) : Option SR → Option (Res D)
  | some (.ret d μ') => some (.ok d (μ'.take μ.length))
  | some (.retC c μ') => if μ.length ≤ c then (cellL μ' c).map fun xs => .ok (.list xs) (μ'.take μ.length) else none
  | some (.next _ μ') => some (.ok .none (μ'.take μ.length))
  | some (.exc c μ') => some (.exc c (μ'.take μ.length))
  | none => none
theorem call_df {G : Nat → Option D} {n f : Nat} {g : Fn} {vs : List Val} {μ : Store} (h : tb f = some (.df g)) (hl : vs.length = g.ar) : callN G tb (n + 1) f vs μ = fin μ (exs G (callN G tb n) g.body (startE g.sl vs) μ) := by
  show (match tb f with
    | some (.df g) => if vs.length = g.ar then _ else none
    | some (.pr k sem) => if k ≤ n then sem vs μ else none
    | none => none) = _
  rw [h]
  exact if_pos hl
theorem fin_ret {μ : Store} {d : D} : fin μ (some (.ret d μ)) = some (.ok d μ) := by
  show some (Res.ok d (μ.take μ.length)) = _
  rw [List.take_length]
theorem call_pure {G : Nat → Option D} {n f : Nat} {g : Fn} {vs : List Val} {d : D} (h : tb f = some (.df g)) (hl : vs.length = g.ar) (hb : ∀ μ, exs G (callN G tb n) g.body (startE g.sl vs) μ = some (.ret d μ)) : callN G tb (n + 1) f vs = M.pure d := by
  funext μ
  rw [call_df h hl, hb μ, fin_ret]
  rfl
theorem bind_pure {α β : Type} (a : α) (k : α → M β) : M.bind (M.pure a) k = k a := rfl
theorem of_some {α : Type} (a : α) : M.of (some a) = M.pure a := rfl
theorem sbind_pure {α : Type} (a : α) (μ : Store) (k : α → Store → Option SR) : sbind (M.pure a μ) k = k a μ := rfl
theorem snext_next (en : En) (μ : Store) (k : En → Store → Option SR) : snext (some (.next en μ)) k = k en μ := rfl
theorem snext_ret (d : D) (μ : Store) (k : En → Store → Option SR) : snext (some (.ret d μ)) k = some (.ret d μ) := rfl
theorem atI0 {α : Type} (x : α) (r : List α) : atI (x :: r) 0 = some x := by
  exact atI_nat (j := 0) rfl
theorem atI1 {α : Type} (x y : α) (r : List α) : atI (x :: y :: r) 1 = some y := by
  exact atI_nat (j := 1) rfl
theorem atI2 {α : Type} (x y z : α) (r : List α) : atI (x :: y :: z :: r) 2 = some z := by
  exact atI_nat (j := 2) rfl
theorem idx_t (xs : List D) (i : Int) : idxD (.tuple xs) (.int i) = atI xs i := rfl
theorem idx_l (xs : List D) (i : Int) : idxD (.list xs) (.int i) = atI xs i := rfl
theorem b_add (i j : Int) : bop .add (.int i) (.int j) = some (.int (i + j)) := rfl
theorem b_sub (i j : Int) : bop .sub (.int i) (.int j) = some (.int (i - j)) := rfl
theorem b_mul {i j : Int} (h : mulOk i j = true) : bop .mul (.int i) (.int j) = some (.int (i * j)) := if_pos h
theorem b_fdiv {i j : Int} (h : divOk j = true) : bop .fdiv (.int i) (.int j) = some (.int (i.fdiv j)) := if_pos h
theorem b_mod {i j : Int} (h : j ≠ 0) : bop .mod (.int i) (.int j) = some (.int (i.fmod j)) := if_pos h
theorem plus1 {G : Nat → Option D} {n : Nat} {a b c d : Int} {r : D} (h1 : mulOk a d = true) (h2 : mulOk c b = true) (h3 : mulOk b d = true)
    (h : callN G tb n 2 [.d (.int (a * d + c * b)), .d (.int (b * d))] = M.pure r) : callN G tb (n + 1) 3 [.d (.tuple [.int a, .int b]), .d (.tuple [.int c, .int d])] = M.pure r := by
  refine call_pure (g := fn_plus) rfl rfl fun μ => ?_
  simp only [fn_plus, exs, ex, ev, evv, bind_pure, of_some, sbind_pure, snext_ret, startE, lookD, List.map, List.length, List.replicate, List.cons_append, List.nil_append, List.append_nil, List.getElem?_cons_zero, List.getElem?_cons_succ, idx_t, atI0, atI1, b_mul h1, b_mul h2, b_mul h3, b_add, h]
end Mp

set_option maxRecDepth 100000
set_option maxHeartbeats 4000000
/-! Pu1: numbers. -/
namespace Mp
open PySem L2
theorem c_eq_int (i j : Int) : cop .eq (.int i) (.int j) = some (i == j) := rfl
theorem c_ne_int (i j : Int) : cop .ne (.int i) (.int j) = some (!(i == j)) := rfl
theorem c_lt (i j : Int) : cop .lt (.int i) (.int j) = some (decide (i < j)) := rfl
theorem c_le (i j : Int) : cop .le (.int i) (.int j) = some (decide (i ≤ j)) := rfl
theorem c_gt (i j : Int) : cop .gt (.int i) (.int j) = some (decide (j < i)) := rfl
theorem c_ge (i j : Int) : cop .ge (.int i) (.int j) = some (decide (j ≤ i)) := rfl
theorem bl_abs (i : Int) : bltD .abs [.int i] = some (.int (i.natAbs : Int)) := by
  show some (PyData.int (if i < 0 then -i else i)) = _
  congr 2
  split <;> omega
theorem boolOf_b (b : Bool) : boolOf (.bool b) = some b := rfl
theorem intOf_i (i : Int) : intOf (.int i) = some i := rfl
section
variable {G : Nat → Option D} {n : Nat}
def en2 (a b : Nat) : En := [some (.d (.int (a : Int))), some (.d (.int (b : Int)))]
theorem div_loop (call : Nat → List Val → M D) : ∀ (b a f : Nat) (μ : Store), b < f → whileL (fun en => (ev G call (.cmp .ne (.var 1) (.cst (.int 0))) en).bind fun x => M.of (boolOf x)) (fun en μ => exs G call [.par 0 1 (.var 1) (.bin .mod (.var 0) (.var 1))] en μ) f (en2 a b) μ = some (.next (en2 (Nat.gcd a b) 0) μ) := by
  intro b
  induction b using Nat.strongRecOn with
  | _ b ih =>
    intro a f μ hf
    cases f with
    | zero => omega
    | succ f =>
      unfold whileL
      by_cases hb : b = 0
      · subst hb
        simp [en2, ev, bind_pure, of_some, sbind_pure, lookD, c_ne_int, boolOf]
      · have e1 : ((b : Int) == 0) = false := by simpa using hb
        have e2 : (((a : Int)).fmod (b : Int)) = ((a % b : Nat) : Int) := by rw [Int.fmod_eq_emod_of_nonneg _ (by omega)]; rfl
        have e3 : (b : Int) ≠ 0 := by omega
        have key := ih (a % b) (Nat.mod_lt _ (by omega)) b f μ (by have := Nat.mod_lt a (show 0 < b by omega); omega)
        have e4 : Nat.gcd a b = Nat.gcd b (a % b) := by rw [Nat.gcd_comm a b, Nat.gcd_rec b a, Nat.gcd_comm]
        rw [e4, ← key]
        simp only [en2, ev, bind_pure, of_some, sbind_pure, lookD, List.getElem?_cons_zero, List.getElem?_cons_succ, c_ne_int, boolOf, e1, Option.map_some, Bool.not_false, exs, ex, snext_next, b_mod e3, e2, List.set_cons_zero, List.set_cons_succ]
theorem r_divisor (a b : Nat) : callN G tb (n + 1) 1 [.d (.int (a : Int)), .d (.int (b : Int))] = M.pure (.int ((Nat.gcd a b : Nat) : Int)) := by
  refine call_pure (g := fn_divisor) rfl rfl fun μ => ?_
  have e : startE fn_divisor.sl [.d (.int (a : Int)), .d (.int (b : Int))] = en2 a b := rfl
  have e2 : natAt 1 (en2 a b) = b + 1 := by
    show ((b : Int)).natAbs + 1 = b + 1
    omega
  have e3 : fuel_divisor (en2 a b) = b + 1 := e2
  rw [e]
  simp only [fn_divisor, exs, ex, e3]
  have := div_loop (G := G) (callN G tb n) b a (b + 1) μ (by omega)
  simp only [exs, ex] at this
  rw [this, snext_next]
  simp only [ev, en2, lookD, List.getElem?_cons_zero, of_some, sbind_pure, snext_ret]
/-- a fraction as data -/
def fr (q : Rat) : D := .tuple [.int q.num, .int (q.den : Int)]
theorem divOk_of {j : Int} (h : j ≠ 0) (hb : j.natAbs < 2 ^ 9000) : divOk j = true := by
  unfold divOk
  rw [Bool.and_eq_true, decide_eq_true_eq, decide_eq_true_eq]
  exact ⟨h, (Nat.log2_lt (by omega)).mpr hb⟩
theorem gcd_pos (t : Int) {b : Nat} (hb : 0 < b) : 0 < Nat.gcd t.natAbs b := Nat.gcd_pos_of_pos_right _ hb
theorem r_lowest (t : Int) (b : Nat) (hb : b ≠ 0) (hs : b < 2 ^ 9000) : callN G tb (n + 2) 2 [.d (.int t), .d (.int (b : Int))] = M.pure (fr (Rat.normalize t b hb)) := by
  refine call_pure (g := fn_lowest) rfl rfl fun μ => ?_
  have hg := gcd_pos t (Nat.pos_of_ne_zero hb)
  have hle : Nat.gcd t.natAbs b ≤ b := Nat.le_of_dvd (Nat.pos_of_ne_zero hb) (Nat.gcd_dvd_right _ _)
  have e1 : decide ((b : Int) < 0) = false := by simp
  have e2 : divOk ((Nat.gcd t.natAbs b : Nat) : Int) = true := divOk_of (by omega) (by omega)
  have e3 : t.fdiv ((Nat.gcd t.natAbs b : Nat) : Int) = (Rat.normalize t b hb).num := by
    rw [Rat.normalize_eq]
    exact Int.fdiv_eq_ediv_of_nonneg _ (by omega)
  have e4 : (b : Int).fdiv ((Nat.gcd t.natAbs b : Nat) : Int) = ((Rat.normalize t b hb).den : Int) := by
    rw [Rat.normalize_eq]
    exact Int.fdiv_eq_ediv_of_nonneg _ (by omega)
  have e5 : ((b : Int)).natAbs = b := by omega
  simp only [fn_lowest, exs, ex, ev, evv, evs, bind_pure, of_some, sbind_pure, snext_ret, snext_next, startE, lookD, List.map, List.length, List.replicate, List.cons_append, List.nil_append, List.append_nil, List.getElem?_cons_zero, List.getElem?_cons_succ, List.set_cons_zero, List.set_cons_succ, bl_abs, e5, r_divisor, setT, Option.map_some, c_lt, e1, boolOf, b_fdiv e2, e3, e4]
  rfl
/-- small: both parts below 2 ^ b -/
def Sm (b : Nat) (q : Rat) : Prop := q.num.natAbs < 2 ^ b ∧ q.den < 2 ^ b
theorem mulOk_of {i j : Int} {a b : Nat} (hi : i.natAbs < 2 ^ a) (hj : j.natAbs < 2 ^ b) (h : a + b < 100000000) : mulOk i j = true := by
  unfold mulOk
  rw [decide_eq_true_eq]
  have l : ∀ (x : Nat) (a : Nat), x < 2 ^ a → x.log2 ≤ a := fun x a hx => by
    by_cases h0 : x = 0
    · rw [h0, Nat.log2_zero]; omega
    · exact Nat.le_of_lt ((Nat.log2_lt h0).mpr hx)
  have := l _ _ hi
  have := l _ _ hj
  omega
theorem r_plus {p q : Rat} {a b : Nat} (hp : Sm a p) (hq : Sm b q) (h : a + b ≤ 9000) : callN G tb (n + 3) 3 [.d (fr p), .d (fr q)] = M.pure (fr (p + q)) := by
  have hd : p.den * q.den ≠ 0 := Nat.mul_ne_zero p.den_nz q.den_nz
  have hs : p.den * q.den < 2 ^ 9000 := Nat.lt_of_lt_of_le (Nat.mul_lt_mul'' hp.2 hq.2) (by rw [← Nat.pow_add]; exact Nat.pow_le_pow_right (by decide) h)
  refine plus1 (mulOk_of hp.1 (by simpa using hq.2) (by omega)) (mulOk_of hq.1 (by simpa using hp.2) (by omega)) (mulOk_of (by simpa using hp.2) (by simpa using hq.2) (by omega : a + b < _)) ?_
  have e : ((p.den : Int) * (q.den : Int)) = ((p.den * q.den : Nat) : Int) := by simp
  rw [e, r_lowest _ _ hd hs, Rat.add_def]
end
end Mp

set_option maxRecDepth 100000
set_option maxHeartbeats 4000000
/-! Pu2: straight functions. -/
namespace Mp
open PySem L2
theorem nox_pure {α : Type} (a : α) : (M.pure a).nox = M.pure a := rfl
theorem mapM_nil (f : D → M D) : mapM' f [] = M.pure [] := rfl
theorem mapM_cons (f : D → M D) (x : D) (r : List D) : mapM' f (x :: r) = (f x).bind fun y => (mapM' f r).bind fun ys => M.pure (y :: ys) := rfl
theorem lenOk2 (a b : D) : lenOk [a, b] = some [a, b] := rfl
theorem lenOk3 (a b c : D) : lenOk [a, b, c] = some [a, b, c] := rfl
theorem rng3 : rngD 0 3 = [.int 0, .int 1, .int 2] := rfl
theorem rng2 : rngD 0 2 = [.int 0, .int 1] := rfl
theorem bl_tup (xs : List D) : bltD .tuple [.list xs] = some (.tuple xs) := rfl
theorem Sm.mono {a b : Nat} {q : Rat} (h : Sm a q) (hab : a ≤ b) : Sm b q :=
  ⟨Nat.lt_of_lt_of_le h.1 (Nat.pow_le_pow_right (by decide) hab), Nat.lt_of_lt_of_le h.2 (Nat.pow_le_pow_right (by decide) hab)⟩
theorem norm_num_le (t : Int) (b : Nat) (hb : b ≠ 0) : (Rat.normalize t b hb).num.natAbs ≤ t.natAbs := by
  rw [Rat.normalize_eq]
  show (t / _).natAbs ≤ _
  rw [Int.natAbs_ediv_of_dvd (Int.ofNat_dvd_left.mpr (Nat.gcd_dvd_left _ _))]
  exact Nat.div_le_self _ _
theorem norm_den_le (t : Int) (b : Nat) (hb : b ≠ 0) : (Rat.normalize t b hb).den ≤ b := by
  rw [Rat.normalize_eq]
  exact Nat.div_le_self _ _
theorem Sm.add {a b : Nat} {p q : Rat} (hp : Sm a p) (hq : Sm b q) : Sm (a + b + 1) (p + q) := by
  rw [Rat.add_def]
  have d : p.den * q.den < 2 ^ (a + b) := by rw [Nat.pow_add]; exact Nat.mul_lt_mul'' hp.2 hq.2
  have n1 : p.num.natAbs * q.den < 2 ^ (a + b) := by rw [Nat.pow_add]; exact Nat.mul_lt_mul'' hp.1 hq.2
  have n2 : q.num.natAbs * p.den < 2 ^ (a + b) := by rw [Nat.pow_add, Nat.mul_comm (2 ^ a)]; exact Nat.mul_lt_mul'' hq.1 hp.2
  have e : 2 ^ (a + b + 1) = 2 ^ (a + b) + 2 ^ (a + b) := by rw [Nat.pow_succ]; omega
  refine ⟨Nat.lt_of_le_of_lt (norm_num_le _ _ _) ?_, Nat.lt_of_le_of_lt (norm_den_le _ _ _) (by omega)⟩
  have := Int.natAbs_add_le (p.num * q.den) (q.num * p.den)
  rw [Int.natAbs_mul, Int.natAbs_mul, Int.natAbs_natCast, Int.natAbs_natCast] at this
  omega
theorem Sm.mul {a b : Nat} {p q : Rat} (hp : Sm a p) (hq : Sm b q) : Sm (a + b) (p * q) := by
  rw [Rat.mul_def]
  have d : p.den * q.den < 2 ^ (a + b) := by rw [Nat.pow_add]; exact Nat.mul_lt_mul'' hp.2 hq.2
  have n1 : p.num.natAbs * q.num.natAbs < 2 ^ (a + b) := by rw [Nat.pow_add]; exact Nat.mul_lt_mul'' hp.1 hq.1
  refine ⟨Nat.lt_of_le_of_lt (norm_num_le _ _ _) ?_, Nat.lt_of_le_of_lt (norm_den_le _ _ _) d⟩
  rw [Int.natAbs_mul]
  exact n1
section
variable {G : Nat → Option D} {n : Nat}
theorem r_times {p q : Rat} {a b : Nat} (hp : Sm a p) (hq : Sm b q) (h : a + b ≤ 9000) : callN G tb (n + 3) 4 [.d (fr p), .d (fr q)] = M.pure (fr (p * q)) := by
  have hd : p.den * q.den ≠ 0 := Nat.mul_ne_zero p.den_nz q.den_nz
  have hs : p.den * q.den < 2 ^ 9000 := Nat.lt_of_lt_of_le (Nat.mul_lt_mul'' hp.2 hq.2) (by rw [← Nat.pow_add]; exact Nat.pow_le_pow_right (by decide) h)
  have e : ((p.den : Int) * (q.den : Int)) = ((p.den * q.den : Nat) : Int) := by simp
  refine call_pure (g := fn_times) rfl rfl fun μ => ?_
  have m1 : mulOk p.num q.num = true := mulOk_of hp.1 hq.1 (by omega)
  have m2 : mulOk (p.den : Int) (q.den : Int) = true := mulOk_of (by simpa using hp.2) (by simpa using hq.2) (by omega : a + b < _)
  simp only [fr, fn_times, exs, ex, ev, evv, evs, evi, evo, bind_pure, of_some, sbind_pure, snext_ret, snext_next, startE, lookD, List.map, List.length, List.replicate, List.cons_append, List.nil_append, List.append_nil, List.getElem?_cons_zero, List.getElem?_cons_succ, List.set_cons_zero, List.set_cons_succ, setT, Option.map_some, boolOf, idx_t, idx_l, atI0, atI1, atI2, c_eq_int, c_ne_int, c_lt, c_le, c_gt, c_ge, b_add, b_sub, bl_abs, intOf, b_mul m1, b_mul m2, e, r_lowest _ _ hd hs, ← Rat.mul_def]
theorem r_less {p q : Rat} {a b : Nat} (hp : Sm a p) (hq : Sm b q) (h : a + b ≤ 9000) : callN G tb (n + 1) 5 [.d (fr p), .d (fr q)] = M.pure (.bool (decide (p < q))) := by
  refine call_pure (g := fn_is_less) rfl rfl fun μ => ?_
  have m1 : mulOk p.num (q.den : Int) = true := mulOk_of hp.1 (by simpa using hq.2) (by omega)
  have m2 : mulOk q.num (p.den : Int) = true := mulOk_of hq.1 (by simpa using hp.2) (by omega : b + a < _)
  simp only [fr, fn_is_less, exs, ex, ev, evv, evs, evi, evo, bind_pure, of_some, sbind_pure, snext_ret, snext_next, startE, lookD, List.map, List.length, List.replicate, List.cons_append, List.nil_append, List.append_nil, List.getElem?_cons_zero, List.getElem?_cons_succ, List.set_cons_zero, List.set_cons_succ, setT, Option.map_some, boolOf, idx_t, idx_l, atI0, atI1, atI2, c_eq_int, c_ne_int, c_lt, c_le, c_gt, c_ge, b_add, b_sub, bl_abs, intOf, b_mul m1, b_mul m2, Rat.lt_iff]
/-- a point, a straight function as data -/
def pt (x y : Rat) : D := .tuple [fr x, fr y]
def f3 (a b c : Rat) : D := .tuple [fr a, fr b, fr c]
theorem r_straight {a b c x y : Rat} {s u : Nat} (ha : Sm s a) (hb : Sm s b) (hc : Sm s c) (hx : Sm u x) (hy : Sm u y) (h : 3 * s + 2 * u + 1 ≤ 9000) :
    callN G tb (n + 4) 16 [.d (f3 a b c), .d (pt x y)] = M.pure (fr (a * x + b * y + c)) := by
  refine call_pure (g := fn_straight_at) rfl rfl fun μ => ?_
  simp only [f3, pt, fn_straight_at, exs, ex, ev, evv, evs, evi, evo, bind_pure, of_some, sbind_pure, snext_ret, snext_next, startE, lookD, List.map, List.length, List.replicate, List.cons_append, List.nil_append, List.append_nil, List.getElem?_cons_zero, List.getElem?_cons_succ, List.set_cons_zero, List.set_cons_succ, setT, Option.map_some, boolOf, idx_t, idx_l, atI0, atI1, atI2, c_eq_int, c_ne_int, c_lt, c_le, c_gt, c_ge, b_add, b_sub, bl_abs, intOf, r_times ha hx (by omega), r_times hb hy (by omega), r_plus (ha.mul hx) (hb.mul hy) (by omega), r_plus ((ha.mul hx).add (hb.mul hy)) hc (by omega)]
theorem r_summed {a b c a' b' c' : Rat} {s s' : Nat} (ha : Sm s a) (hb : Sm s b) (hc : Sm s c) (ha' : Sm s' a') (hb' : Sm s' b') (hc' : Sm s' c') (h : s + s' ≤ 9000) :
    callN G tb (n + 4) 17 [.d (f3 a b c), .d (f3 a' b' c')] = M.pure (f3 (a + a') (b + b') (c + c')) := by
  refine call_pure (g := fn_summed) rfl rfl fun μ => ?_
  have e : (if rngOk 3 = true then some (rngD 0 (Int.toNat 3)) else none) = some [.int 0, .int 1, .int 2] := rfl
  simp only [f3, fn_summed, exs, ex, ev, evv, evs, evi, evo, bind_pure, of_some, sbind_pure, snext_ret, snext_next, startE, lookD, List.map, List.length, List.replicate, List.cons_append, List.nil_append, List.append_nil, List.getElem?_cons_zero, List.getElem?_cons_succ, List.set_cons_zero, List.set_cons_succ, setT, Option.map_some, boolOf, idx_t, idx_l, atI0, atI1, atI2, c_eq_int, c_ne_int, c_lt, c_le, c_gt, c_ge, b_add, b_sub, bl_abs, intOf, Option.bind, e, lenOk3, mapM_cons, mapM_nil, nox_pure, r_plus ha ha' h, r_plus hb hb' h, r_plus hc hc' h, bl_tup]
theorem r_scaled {a b c q : Rat} {s s' : Nat} (ha : Sm s a) (hb : Sm s b) (hc : Sm s c) (hq : Sm s' q) (h : s + s' ≤ 9000) :
    callN G tb (n + 4) 18 [.d (f3 a b c), .d (fr q)] = M.pure (f3 (a * q) (b * q) (c * q)) := by
  refine call_pure (g := fn_scaled) rfl rfl fun μ => ?_
  simp only [f3, fn_scaled, exs, ex, ev, evv, evs, evi, evo, bind_pure, of_some, sbind_pure, snext_ret, snext_next, startE, lookD, List.map, List.length, List.replicate, List.cons_append, List.nil_append, List.append_nil, List.getElem?_cons_zero, List.getElem?_cons_succ, List.set_cons_zero, List.set_cons_succ, setT, Option.map_some, boolOf, idx_t, idx_l, atI0, atI1, atI2, c_eq_int, c_ne_int, c_lt, c_le, c_gt, c_ge, b_add, b_sub, bl_abs, intOf, seqOf, lenOk3, mapM_cons, mapM_nil, nox_pure, r_times ha hq h, r_times hb hq h, r_times hc hq h, bl_tup]
theorem eqv_fr (p q : Rat) : PyData.eqv (fr p) (fr q) = decide (p = q) := by
  show ((p.num == q.num) && (((p.den : Int) == (q.den : Int)) && true)) = _
  rw [Bool.eq_iff_iff, Bool.and_true, Bool.and_eq_true, beq_iff_eq, beq_iff_eq, decide_eq_true_eq]
  constructor
  · rintro ⟨h1, h2⟩
    exact Rat.ext h1 (by omega)
  · intro h
    rw [h]
    exact ⟨rfl, rfl⟩
theorem ne_fr (p q : Rat) : cop .ne (fr p) (fr q) = some (!decide (p = q)) := by
  rw [← eqv_fr]
  rfl
theorem eq_fr (p q : Rat) : cop .eq (fr p) (fr q) = some (decide (p = q)) := by
  rw [← eqv_fr]
  rfl
/-- a straight function -/
structure Fl where
  a : Rat
  b : Rat
  c : Rat
def Fl.d (f : Fl) : D := f3 f.a f.b f.c
def Fl.at (f : Fl) (x y : Rat) : Rat := f.a * x + f.b * y + f.c
def Fl.S (s : Nat) (f : Fl) : Prop := Sm s f.a ∧ Sm s f.b ∧ Sm s f.c
def under (f g : Fl) (x y : Rat) : Bool := if f.at x y = g.at x y then (if f.a = g.a then (if f.b = g.b then false else decide (f.b < g.b)) else decide (f.a < g.a)) else decide (f.at x y < g.at x y)
theorem Fl.S.at {s u : Nat} {f : Fl} {x y : Rat} (h : f.S s) (hx : Sm u x) (hy : Sm u y) : Sm (3 * s + 2 * u + 2) (f.at x y) := (((h.1.mul hx).add (h.2.1.mul hy)).add h.2.2).mono (by omega)
theorem r_under {f g : Fl} {x y : Rat} {s u : Nat} (hf : f.S s) (hg : g.S s) (hx : Sm u x) (hy : Sm u y) (h : 6 * s + 4 * u + 4 ≤ 9000) :
    callN G tb (n + 5) 19 [.d f.d, .d g.d, .d (pt x y)] = M.pure (.bool (under f g x y)) := by
  refine call_pure (g := fn_is_under) rfl rfl fun μ => ?_
  have e1 : callN G tb (n + 4) 16 [.d (f3 f.a f.b f.c), .d (pt x y)] = M.pure (fr (f.at x y)) := r_straight hf.1 hf.2.1 hf.2.2 hx hy (by omega)
  have e2 : callN G tb (n + 4) 16 [.d (f3 g.a g.b g.c), .d (pt x y)] = M.pure (fr (g.at x y)) := r_straight hg.1 hg.2.1 hg.2.2 hx hy (by omega)
  have l1 : callN G tb (n + 4) 5 [.d (fr (f.at x y)), .d (fr (g.at x y))] = _ := r_less (n := n + 3) (hf.at hx hy) (hg.at hx hy) (by omega)
  have l2 : callN G tb (n + 4) 5 [.d (fr f.a), .d (fr g.a)] = _ := r_less (n := n + 3) hf.1 hg.1 (by omega)
  have l3 : callN G tb (n + 4) 5 [.d (fr f.b), .d (fr g.b)] = _ := r_less (n := n + 3) hf.2.1 hg.2.1 (by omega)
  have i0 : ∀ p q r : Rat, idxD (f3 p q r) (.int 0) = some (fr p) := fun p q r => atI0 _ _
  have i1 : ∀ p q r : Rat, idxD (f3 p q r) (.int 1) = some (fr q) := fun p q r => atI1 _ _ _
  unfold under
  simp only [Fl.d, fn_is_under, exs, ex, ev, evv, evs, evi, evo, bind_pure, of_some, sbind_pure, snext_ret, snext_next, startE, lookD, List.map, List.length, List.replicate, List.cons_append, List.nil_append, List.append_nil, List.getElem?_cons_zero, List.getElem?_cons_succ, List.set_cons_zero, List.set_cons_succ, setT, Option.map_some, boolOf, idx_t, idx_l, atI0, atI1, atI2, c_eq_int, c_ne_int, c_lt, c_le, c_gt, c_ge, b_add, b_sub, bl_abs, intOf, i0, i1, e1, e2, seqOf, forL, if_true, List.zip_cons_cons, List.zip_nil_left, List.zip_nil_right, List.foldl_cons, List.foldl_nil, ne_fr]
  by_cases h1 : f.at x y = g.at x y
  · simp only [h1, decide_true, Bool.not_true, exs, ex, ev, evv, evs, evi, evo, bind_pure, of_some, sbind_pure, snext_ret, snext_next, startE, lookD, List.map, List.length, List.replicate, List.cons_append, List.nil_append, List.append_nil, List.getElem?_cons_zero, List.getElem?_cons_succ, List.set_cons_zero, List.set_cons_succ, setT, Option.map_some, boolOf, idx_t, idx_l, atI0, atI1, atI2, c_eq_int, c_ne_int, c_lt, c_le, c_gt, c_ge, b_add, b_sub, bl_abs, intOf, ne_fr, if_true]
    by_cases h2 : f.a = g.a
    · simp only [h2, decide_true, Bool.not_true, exs, ex, ev, evv, evs, evi, evo, bind_pure, of_some, sbind_pure, snext_ret, snext_next, startE, lookD, List.map, List.length, List.replicate, List.cons_append, List.nil_append, List.append_nil, List.getElem?_cons_zero, List.getElem?_cons_succ, List.set_cons_zero, List.set_cons_succ, setT, Option.map_some, boolOf, idx_t, idx_l, atI0, atI1, atI2, c_eq_int, c_ne_int, c_lt, c_le, c_gt, c_ge, b_add, b_sub, bl_abs, intOf, ne_fr, if_true]
      by_cases h3 : f.b = g.b
      · simp only [h3, decide_true, Bool.not_true, exs, ex, ev, evv, evs, evi, evo, bind_pure, of_some, sbind_pure, snext_ret, snext_next, startE, lookD, List.map, List.length, List.replicate, List.cons_append, List.nil_append, List.append_nil, List.getElem?_cons_zero, List.getElem?_cons_succ, List.set_cons_zero, List.set_cons_succ, setT, Option.map_some, boolOf, idx_t, idx_l, atI0, atI1, atI2, c_eq_int, c_ne_int, c_lt, c_le, c_gt, c_ge, b_add, b_sub, bl_abs, intOf, ne_fr, if_true, sbind_pure, snext_ret]
      · simp only [h3, decide_false, Bool.not_false, exs, ex, ev, evv, evs, evi, evo, bind_pure, of_some, sbind_pure, snext_ret, snext_next, startE, lookD, List.map, List.length, List.replicate, List.cons_append, List.nil_append, List.append_nil, List.getElem?_cons_zero, List.getElem?_cons_succ, List.set_cons_zero, List.set_cons_succ, setT, Option.map_some, boolOf, idx_t, idx_l, atI0, atI1, atI2, c_eq_int, c_ne_int, c_lt, c_le, c_gt, c_ge, b_add, b_sub, bl_abs, intOf, ne_fr, if_false, l3, sbind_pure, snext_ret]
    · simp only [h2, decide_false, Bool.not_false, exs, ex, ev, evv, evs, evi, evo, bind_pure, of_some, sbind_pure, snext_ret, snext_next, startE, lookD, List.map, List.length, List.replicate, List.cons_append, List.nil_append, List.append_nil, List.getElem?_cons_zero, List.getElem?_cons_succ, List.set_cons_zero, List.set_cons_succ, setT, Option.map_some, boolOf, idx_t, idx_l, atI0, atI1, atI2, c_eq_int, c_ne_int, c_lt, c_le, c_gt, c_ge, b_add, b_sub, bl_abs, intOf, ne_fr, if_false, l2, sbind_pure, snext_ret]
  · simp only [h1, decide_false, Bool.not_false, exs, ex, ev, evv, evs, evi, evo, bind_pure, of_some, sbind_pure, snext_ret, snext_next, startE, lookD, List.map, List.length, List.replicate, List.cons_append, List.nil_append, List.append_nil, List.getElem?_cons_zero, List.getElem?_cons_succ, List.set_cons_zero, List.set_cons_succ, setT, Option.map_some, boolOf, idx_t, idx_l, atI0, atI1, atI2, c_eq_int, c_ne_int, c_lt, c_le, c_gt, c_ge, b_add, b_sub, bl_abs, intOf, ne_fr, if_false, l1, sbind_pure, snext_ret]
end
end Mp

set_option maxRecDepth 100000
set_option maxHeartbeats 4000000
/-! Pu3: the law's own numbers; terms; their kinds. -/
namespace Mp
open PySem L2
theorem se_in_in : cop .eq (.str (Str.ofString "in")) (.str (Str.ofString "in")) = some true := by decide +kernel
theorem se_in_num : cop .eq (.str (Str.ofString "in")) (.str (Str.ofString "num")) = some false := by decide +kernel
theorem se_in_times : cop .eq (.str (Str.ofString "in")) (.str (Str.ofString "times")) = some false := by decide +kernel
theorem se_in_size : cop .eq (.str (Str.ofString "in")) (.str (Str.ofString "size")) = some false := by decide +kernel
theorem se_in_add : cop .eq (.str (Str.ofString "in")) (.str (Str.ofString "add")) = some false := by decide +kernel
theorem se_in_more : cop .eq (.str (Str.ofString "in")) (.str (Str.ofString "more")) = some false := by decide +kernel
theorem se_in_less : cop .eq (.str (Str.ofString "in")) (.str (Str.ofString "less")) = some false := by decide +kernel
theorem se_num_in : cop .eq (.str (Str.ofString "num")) (.str (Str.ofString "in")) = some false := by decide +kernel
theorem se_num_num : cop .eq (.str (Str.ofString "num")) (.str (Str.ofString "num")) = some true := by decide +kernel
theorem se_num_times : cop .eq (.str (Str.ofString "num")) (.str (Str.ofString "times")) = some false := by decide +kernel
theorem se_num_size : cop .eq (.str (Str.ofString "num")) (.str (Str.ofString "size")) = some false := by decide +kernel
theorem se_num_add : cop .eq (.str (Str.ofString "num")) (.str (Str.ofString "add")) = some false := by decide +kernel
theorem se_num_more : cop .eq (.str (Str.ofString "num")) (.str (Str.ofString "more")) = some false := by decide +kernel
theorem se_num_less : cop .eq (.str (Str.ofString "num")) (.str (Str.ofString "less")) = some false := by decide +kernel
theorem se_times_in : cop .eq (.str (Str.ofString "times")) (.str (Str.ofString "in")) = some false := by decide +kernel
theorem se_times_num : cop .eq (.str (Str.ofString "times")) (.str (Str.ofString "num")) = some false := by decide +kernel
theorem se_times_times : cop .eq (.str (Str.ofString "times")) (.str (Str.ofString "times")) = some true := by decide +kernel
theorem se_times_size : cop .eq (.str (Str.ofString "times")) (.str (Str.ofString "size")) = some false := by decide +kernel
theorem se_times_add : cop .eq (.str (Str.ofString "times")) (.str (Str.ofString "add")) = some false := by decide +kernel
theorem se_times_more : cop .eq (.str (Str.ofString "times")) (.str (Str.ofString "more")) = some false := by decide +kernel
theorem se_times_less : cop .eq (.str (Str.ofString "times")) (.str (Str.ofString "less")) = some false := by decide +kernel
theorem se_size_in : cop .eq (.str (Str.ofString "size")) (.str (Str.ofString "in")) = some false := by decide +kernel
theorem se_size_num : cop .eq (.str (Str.ofString "size")) (.str (Str.ofString "num")) = some false := by decide +kernel
theorem se_size_times : cop .eq (.str (Str.ofString "size")) (.str (Str.ofString "times")) = some false := by decide +kernel
theorem se_size_size : cop .eq (.str (Str.ofString "size")) (.str (Str.ofString "size")) = some true := by decide +kernel
theorem se_size_add : cop .eq (.str (Str.ofString "size")) (.str (Str.ofString "add")) = some false := by decide +kernel
theorem se_size_more : cop .eq (.str (Str.ofString "size")) (.str (Str.ofString "more")) = some false := by decide +kernel
theorem se_size_less : cop .eq (.str (Str.ofString "size")) (.str (Str.ofString "less")) = some false := by decide +kernel
theorem se_add_in : cop .eq (.str (Str.ofString "add")) (.str (Str.ofString "in")) = some false := by decide +kernel
theorem se_add_num : cop .eq (.str (Str.ofString "add")) (.str (Str.ofString "num")) = some false := by decide +kernel
theorem se_add_times : cop .eq (.str (Str.ofString "add")) (.str (Str.ofString "times")) = some false := by decide +kernel
theorem se_add_size : cop .eq (.str (Str.ofString "add")) (.str (Str.ofString "size")) = some false := by decide +kernel
theorem se_add_add : cop .eq (.str (Str.ofString "add")) (.str (Str.ofString "add")) = some true := by decide +kernel
theorem se_add_more : cop .eq (.str (Str.ofString "add")) (.str (Str.ofString "more")) = some false := by decide +kernel
theorem se_add_less : cop .eq (.str (Str.ofString "add")) (.str (Str.ofString "less")) = some false := by decide +kernel
theorem se_more_in : cop .eq (.str (Str.ofString "more")) (.str (Str.ofString "in")) = some false := by decide +kernel
theorem se_more_num : cop .eq (.str (Str.ofString "more")) (.str (Str.ofString "num")) = some false := by decide +kernel
theorem se_more_times : cop .eq (.str (Str.ofString "more")) (.str (Str.ofString "times")) = some false := by decide +kernel
theorem se_more_size : cop .eq (.str (Str.ofString "more")) (.str (Str.ofString "size")) = some false := by decide +kernel
theorem se_more_add : cop .eq (.str (Str.ofString "more")) (.str (Str.ofString "add")) = some false := by decide +kernel
theorem se_more_more : cop .eq (.str (Str.ofString "more")) (.str (Str.ofString "more")) = some true := by decide +kernel
theorem se_more_less : cop .eq (.str (Str.ofString "more")) (.str (Str.ofString "less")) = some false := by decide +kernel
theorem se_less_in : cop .eq (.str (Str.ofString "less")) (.str (Str.ofString "in")) = some false := by decide +kernel
theorem se_less_num : cop .eq (.str (Str.ofString "less")) (.str (Str.ofString "num")) = some false := by decide +kernel
theorem se_less_times : cop .eq (.str (Str.ofString "less")) (.str (Str.ofString "times")) = some false := by decide +kernel
theorem se_less_size : cop .eq (.str (Str.ofString "less")) (.str (Str.ofString "size")) = some false := by decide +kernel
theorem se_less_add : cop .eq (.str (Str.ofString "less")) (.str (Str.ofString "add")) = some false := by decide +kernel
theorem se_less_more : cop .eq (.str (Str.ofString "less")) (.str (Str.ofString "more")) = some false := by decide +kernel
theorem se_less_less : cop .eq (.str (Str.ofString "less")) (.str (Str.ofString "less")) = some true := by decide +kernel
theorem si_in2_in : inD (.str (Str.ofString "in")) (.tuple [.str (Str.ofString "in"), .str (Str.ofString "num")]) = some true := by decide +kernel
theorem si_in2_num : inD (.str (Str.ofString "num")) (.tuple [.str (Str.ofString "in"), .str (Str.ofString "num")]) = some true := by decide +kernel
theorem si_in2_times : inD (.str (Str.ofString "times")) (.tuple [.str (Str.ofString "in"), .str (Str.ofString "num")]) = some false := by decide +kernel
theorem si_in2_size : inD (.str (Str.ofString "size")) (.tuple [.str (Str.ofString "in"), .str (Str.ofString "num")]) = some false := by decide +kernel
theorem si_in2_add : inD (.str (Str.ofString "add")) (.tuple [.str (Str.ofString "in"), .str (Str.ofString "num")]) = some false := by decide +kernel
theorem si_in2_more : inD (.str (Str.ofString "more")) (.tuple [.str (Str.ofString "in"), .str (Str.ofString "num")]) = some false := by decide +kernel
theorem si_in2_less : inD (.str (Str.ofString "less")) (.tuple [.str (Str.ofString "in"), .str (Str.ofString "num")]) = some false := by decide +kernel
theorem si_cut3_in : inD (.str (Str.ofString "in")) (.tuple [.str (Str.ofString "more"), .str (Str.ofString "less"), .str (Str.ofString "size")]) = some false := by decide +kernel
theorem si_cut3_num : inD (.str (Str.ofString "num")) (.tuple [.str (Str.ofString "more"), .str (Str.ofString "less"), .str (Str.ofString "size")]) = some false := by decide +kernel
theorem si_cut3_times : inD (.str (Str.ofString "times")) (.tuple [.str (Str.ofString "more"), .str (Str.ofString "less"), .str (Str.ofString "size")]) = some false := by decide +kernel
theorem si_cut3_size : inD (.str (Str.ofString "size")) (.tuple [.str (Str.ofString "more"), .str (Str.ofString "less"), .str (Str.ofString "size")]) = some true := by decide +kernel
theorem si_cut3_add : inD (.str (Str.ofString "add")) (.tuple [.str (Str.ofString "more"), .str (Str.ofString "less"), .str (Str.ofString "size")]) = some false := by decide +kernel
theorem si_cut3_more : inD (.str (Str.ofString "more")) (.tuple [.str (Str.ofString "more"), .str (Str.ofString "less"), .str (Str.ofString "size")]) = some true := by decide +kernel
theorem si_cut3_less : inD (.str (Str.ofString "less")) (.tuple [.str (Str.ofString "more"), .str (Str.ofString "less"), .str (Str.ofString "size")]) = some true := by decide +kernel
theorem si_bin3_in : inD (.str (Str.ofString "in")) (.tuple [.str (Str.ofString "add"), .str (Str.ofString "more"), .str (Str.ofString "less")]) = some false := by decide +kernel
theorem si_bin3_num : inD (.str (Str.ofString "num")) (.tuple [.str (Str.ofString "add"), .str (Str.ofString "more"), .str (Str.ofString "less")]) = some false := by decide +kernel
theorem si_bin3_times : inD (.str (Str.ofString "times")) (.tuple [.str (Str.ofString "add"), .str (Str.ofString "more"), .str (Str.ofString "less")]) = some false := by decide +kernel
theorem si_bin3_size : inD (.str (Str.ofString "size")) (.tuple [.str (Str.ofString "add"), .str (Str.ofString "more"), .str (Str.ofString "less")]) = some false := by decide +kernel
theorem si_bin3_add : inD (.str (Str.ofString "add")) (.tuple [.str (Str.ofString "add"), .str (Str.ofString "more"), .str (Str.ofString "less")]) = some true := by decide +kernel
theorem si_bin3_more : inD (.str (Str.ofString "more")) (.tuple [.str (Str.ofString "add"), .str (Str.ofString "more"), .str (Str.ofString "less")]) = some true := by decide +kernel
theorem si_bin3_less : inD (.str (Str.ofString "less")) (.tuple [.str (Str.ofString "add"), .str (Str.ofString "more"), .str (Str.ofString "less")]) = some true := by decide +kernel
section
variable {G : Nat → Option D} {n : Nat}
def en4 (p q : D) (a b : Nat) : En := [some (.d p), some (.d q), some (.d (.int (a : Int))), some (.d (.int (b : Int)))]
theorem low_loop (call : Nat → List Val → M D) (p q : D) : ∀ (b a f : Nat) (μ : Store), b < f → whileL (fun en => (ev G call (.cmp .ne (.var 3) (.cst (.int 0))) en).bind fun x => M.of (boolOf x)) (fun en μ => exs G call [.par 2 3 (.var 3) (.bin .mod (.var 2) (.var 3))] en μ) f (en4 p q a b) μ = some (.next (en4 p q (Nat.gcd a b) 0) μ) := by
  intro b
  induction b using Nat.strongRecOn with
  | _ b ih =>
    intro a f μ hf
    cases f with
    | zero => omega
    | succ f =>
      unfold whileL
      by_cases hb : b = 0
      · subst hb
        simp [en4, ev, bind_pure, of_some, sbind_pure, lookD, c_ne_int, boolOf]
      · have e1 : ((b : Int) == 0) = false := by simpa using hb
        have e2 : (((a : Int)).fmod (b : Int)) = ((a % b : Nat) : Int) := by rw [Int.fmod_eq_emod_of_nonneg _ (by omega)]; rfl
        have e3 : (b : Int) ≠ 0 := by omega
        have key := ih (a % b) (Nat.mod_lt _ (by omega)) b f μ (by have := Nat.mod_lt a (show 0 < b by omega); omega)
        have e4 : Nat.gcd a b = Nat.gcd b (a % b) := by rw [Nat.gcd_comm a b, Nat.gcd_rec b a, Nat.gcd_comm]
        rw [e4, ← key]
        simp only [en4, exs, ex, ev, evv, evs, evi, evo, bind_pure, of_some, sbind_pure, snext_ret, snext_next, startE, lookD, List.map, List.length, List.replicate, List.cons_append, List.nil_append, List.append_nil, List.getElem?_cons_zero, List.getElem?_cons_succ, List.set_cons_zero, List.set_cons_succ, setT, Option.map_some, boolOf, idx_t, idx_l, atI0, atI1, atI2, c_eq_int, c_ne_int, c_lt, c_le, c_gt, c_ge, b_add, b_sub, bl_abs, intOf, e1, Bool.not_false, b_mod e3, e2]
theorem r_low (t : Int) (b : Nat) (hb : b ≠ 0) (hs : b < 2 ^ 9000) : callN G tb (n + 1) 29 [.d (.int t), .d (.int (b : Int))] = M.pure (fr (Rat.normalize t b hb)) := by
  refine call_pure (g := fn__law_low) rfl rfl fun μ => ?_
  have hg := gcd_pos t (Nat.pos_of_ne_zero hb)
  have hle : Nat.gcd t.natAbs b ≤ b := Nat.le_of_dvd (Nat.pos_of_ne_zero hb) (Nat.gcd_dvd_right _ _)
  have e1 : decide ((0 : Int) < (b : Int)) = true := by simp; omega
  have e2 : divOk ((Nat.gcd t.natAbs b : Nat) : Int) = true := divOk_of (by omega) (by omega)
  have e3 : t.fdiv ((Nat.gcd t.natAbs b : Nat) : Int) = (Rat.normalize t b hb).num := by
    rw [Rat.normalize_eq]
    exact Int.fdiv_eq_ediv_of_nonneg _ (by omega)
  have e4 : (b : Int).fdiv ((Nat.gcd t.natAbs b : Nat) : Int) = ((Rat.normalize t b hb).den : Int) := by
    rw [Rat.normalize_eq]
    exact Int.fdiv_eq_ediv_of_nonneg _ (by omega)
  have e5 : ((b : Int)).natAbs = b := by omega
  have e6 : fuel__law_low (en4 (.int t) (.int (b : Int)) t.natAbs b) = b + 1 := by
    show ((b : Int)).natAbs + 1 = b + 1
    omega
  have lp := low_loop (G := G) (callN G tb n) (.int t) (.int (b : Int)) b t.natAbs (b + 1) μ (by omega)
  rw [← e6] at lp
  simp only [exs, ex] at lp
  have st : ex G (callN G tb n) (.par 2 3 (.blt .abs (.cons (.var 0) .nil)) (.blt .abs (.cons (.var 1) .nil))) (startE 4 [.d (.int t), .d (.int (b : Int))]) μ = some (.next (en4 (.int t) (.int (b : Int)) t.natAbs b) μ) := by
    simp only [en4, exs, ex, ev, evv, evs, evi, evo, bind_pure, of_some, sbind_pure, snext_ret, snext_next, startE, lookD, List.map, List.length, List.replicate, List.cons_append, List.nil_append, List.append_nil, List.getElem?_cons_zero, List.getElem?_cons_succ, List.set_cons_zero, List.set_cons_succ, setT, Option.map_some, boolOf, idx_t, idx_l, atI0, atI1, atI2, c_eq_int, c_ne_int, c_lt, c_le, c_gt, c_ge, b_add, b_sub, bl_abs, intOf, e5]
  simp only [fn__law_low, exs]
  rw [st, snext_next]
  simp only [ex, exs, lp, snext_next]
  simp only [en4, exs, ex, ev, evv, evs, evi, evo, bind_pure, of_some, sbind_pure, snext_ret, snext_next, startE, lookD, List.map, List.length, List.replicate, List.cons_append, List.nil_append, List.append_nil, List.getElem?_cons_zero, List.getElem?_cons_succ, List.set_cons_zero, List.set_cons_succ, setT, Option.map_some, boolOf, idx_t, idx_l, atI0, atI1, atI2, c_eq_int, c_ne_int, c_lt, c_le, c_gt, c_ge, b_add, b_sub, bl_abs, intOf, e1, b_fdiv e2, e3, e4, snext_ret, fr]
theorem r_lplus {p q : Rat} {a b : Nat} (hp : Sm a p) (hq : Sm b q) (h : a + b ≤ 9000) : callN G tb (n + 2) 30 [.d (fr p), .d (fr q)] = M.pure (fr (p + q)) := by
  have hd : p.den * q.den ≠ 0 := Nat.mul_ne_zero p.den_nz q.den_nz
  have hs : p.den * q.den < 2 ^ 9000 := Nat.lt_of_lt_of_le (Nat.mul_lt_mul'' hp.2 hq.2) (by rw [← Nat.pow_add]; exact Nat.pow_le_pow_right (by decide) h)
  have e : ((p.den : Int) * (q.den : Int)) = ((p.den * q.den : Nat) : Int) := by simp
  refine call_pure (g := fn__law_plus) rfl rfl fun μ => ?_
  have m1 : mulOk p.num (q.den : Int) = true := mulOk_of hp.1 (by simpa using hq.2) (by omega)
  have m2 : mulOk q.num (p.den : Int) = true := mulOk_of hq.1 (by simpa using hp.2) (by omega : b + a < _)
  have m3 : mulOk (p.den : Int) (q.den : Int) = true := mulOk_of (by simpa using hp.2) (by simpa using hq.2) (by omega : a + b < _)
  simp only [fr, fn__law_plus, exs, ex, ev, evv, evs, evi, evo, bind_pure, of_some, sbind_pure, snext_ret, snext_next, startE, lookD, List.map, List.length, List.replicate, List.cons_append, List.nil_append, List.append_nil, List.getElem?_cons_zero, List.getElem?_cons_succ, List.set_cons_zero, List.set_cons_succ, setT, Option.map_some, boolOf, idx_t, idx_l, atI0, atI1, atI2, c_eq_int, c_ne_int, c_lt, c_le, c_gt, c_ge, b_add, b_sub, bl_abs, intOf, b_mul m1, b_mul m2, b_mul m3, e, r_low _ _ hd hs, ← Rat.add_def]
theorem r_ltimes {p q : Rat} {a b : Nat} (hp : Sm a p) (hq : Sm b q) (h : a + b ≤ 9000) : callN G tb (n + 2) 31 [.d (fr p), .d (fr q)] = M.pure (fr (p * q)) := by
  have hd : p.den * q.den ≠ 0 := Nat.mul_ne_zero p.den_nz q.den_nz
  have hs : p.den * q.den < 2 ^ 9000 := Nat.lt_of_lt_of_le (Nat.mul_lt_mul'' hp.2 hq.2) (by rw [← Nat.pow_add]; exact Nat.pow_le_pow_right (by decide) h)
  have e : ((p.den : Int) * (q.den : Int)) = ((p.den * q.den : Nat) : Int) := by simp
  refine call_pure (g := fn__law_times) rfl rfl fun μ => ?_
  have m1 : mulOk p.num q.num = true := mulOk_of hp.1 hq.1 (by omega)
  have m2 : mulOk (p.den : Int) (q.den : Int) = true := mulOk_of (by simpa using hp.2) (by simpa using hq.2) (by omega : a + b < _)
  simp only [fr, fn__law_times, exs, ex, ev, evv, evs, evi, evo, bind_pure, of_some, sbind_pure, snext_ret, snext_next, startE, lookD, List.map, List.length, List.replicate, List.cons_append, List.nil_append, List.append_nil, List.getElem?_cons_zero, List.getElem?_cons_succ, List.set_cons_zero, List.set_cons_succ, setT, Option.map_some, boolOf, idx_t, idx_l, atI0, atI1, atI2, c_eq_int, c_ne_int, c_lt, c_le, c_gt, c_ge, b_add, b_sub, bl_abs, intOf, b_mul m1, b_mul m2, e, r_low _ _ hd hs, ← Rat.mul_def]
theorem r_below {p q : Rat} {a b : Nat} (hp : Sm a p) (hq : Sm b q) (h : a + b ≤ 9000) : callN G tb (n + 1) 32 [.d (fr p), .d (fr q)] = M.pure (.bool (decide (p < q))) := by
  refine call_pure (g := fn__law_below) rfl rfl fun μ => ?_
  have m1 : mulOk p.num (q.den : Int) = true := mulOk_of hp.1 (by simpa using hq.2) (by omega)
  have m2 : mulOk q.num (p.den : Int) = true := mulOk_of hq.1 (by simpa using hp.2) (by omega : b + a < _)
  simp only [fr, fn__law_below, exs, ex, ev, evv, evs, evi, evo, bind_pure, of_some, sbind_pure, snext_ret, snext_next, startE, lookD, List.map, List.length, List.replicate, List.cons_append, List.nil_append, List.append_nil, List.getElem?_cons_zero, List.getElem?_cons_succ, List.set_cons_zero, List.set_cons_succ, setT, Option.map_some, boolOf, idx_t, idx_l, atI0, atI1, atI2, c_eq_int, c_ne_int, c_lt, c_le, c_gt, c_ge, b_add, b_sub, bl_abs, intOf, b_mul m1, b_mul m2, Rat.lt_iff]
end
/-! ### terms -/
inductive Tm where
  | inp (b : Bool)
  | num (q : Rat)
  | times (q : Rat) (t : Tm)
  | size (t : Tm)
  | add (s t : Tm)
  | more (s t : Tm)
  | less (s t : Tm)
def Tm.d : Tm → D
  | .inp b => .tuple [.str (Str.ofString "in"), .int (if b then 1 else 0)]
  | .num q => .tuple [.str (Str.ofString "num"), fr q]
  | .times q t => .tuple [.str (Str.ofString "times"), fr q, t.d]
  | .size t => .tuple [.str (Str.ofString "size"), t.d]
  | .add s t => .tuple [.str (Str.ofString "add"), s.d, t.d]
  | .more s t => .tuple [.str (Str.ofString "more"), s.d, t.d]
  | .less s t => .tuple [.str (Str.ofString "less"), s.d, t.d]
/-- levels, parts -/
def Tm.dp : Tm → Nat
  | .inp _ => 1
  | .num _ => 1
  | .times _ t => t.dp + 1
  | .size t => t.dp + 1
  | .add s t => max s.dp t.dp + 1
  | .more s t => max s.dp t.dp + 1
  | .less s t => max s.dp t.dp + 1
def Tm.cnt : Tm → Nat
  | .inp _ => 1
  | .num _ => 1
  | .times _ t => 1 + t.cnt
  | .size t => 1 + t.cnt
  | .add s t => 1 + (s.cnt + t.cnt)
  | .more s t => 1 + (s.cnt + t.cnt)
  | .less s t => 1 + (s.cnt + t.cnt)
/-- its numbers are small -/
def Tm.Sm7 : Tm → Prop
  | .inp _ => True
  | .num q => Sm 7 q
  | .times q t => Sm 7 q ∧ t.Sm7
  | .size t => t.Sm7
  | .add s t => s.Sm7 ∧ t.Sm7
  | .more s t => s.Sm7 ∧ t.Sm7
  | .less s t => s.Sm7 ∧ t.Sm7
def Tm.out (x y : Rat) : Tm → Rat
  | .inp b => if b then y else x
  | .num q => q
  | .times q t => q * t.out x y
  | .size t => if t.out x y < 0 then - t.out x y else t.out x y
  | .add s t => s.out x y + t.out x y
  | .more s t => if s.out x y < t.out x y then t.out x y else s.out x y
  | .less s t => if s.out x y < t.out x y then s.out x y else t.out x y
def Tm.piece (x y : Rat) : Tm → Fl
  | .inp b => if b then ⟨0, 1, 0⟩ else ⟨1, 0, 0⟩
  | .num q => ⟨0, 0, q⟩
  | .times q t => ⟨(t.piece x y).a * q, (t.piece x y).b * q, (t.piece x y).c * q⟩
  | .size t => if under (t.piece x y) ⟨0, 0, 0⟩ x y then ⟨(t.piece x y).a * (-1), (t.piece x y).b * (-1), (t.piece x y).c * (-1)⟩ else t.piece x y
  | .add s t => ⟨(s.piece x y).a + (t.piece x y).a, (s.piece x y).b + (t.piece x y).b, (s.piece x y).c + (t.piece x y).c⟩
  | .more s t => if under (s.piece x y) (t.piece x y) x y then t.piece x y else s.piece x y
  | .less s t => if under (s.piece x y) (t.piece x y) x y then s.piece x y else t.piece x y
theorem under_t {f g : Fl} {x y : Rat} (h : under f g x y = true) : f.at x y ≤ g.at x y := by
  unfold under at h
  split at h
  · rename_i e; rw [e]; exact Rat.le_refl
  · exact Rat.le_of_lt (of_decide_eq_true h)
theorem under_f {f g : Fl} {x y : Rat} (h : under f g x y = false) : g.at x y ≤ f.at x y := by
  unfold under at h
  split at h
  · rename_i e; rw [e]; exact Rat.le_refl
  · have := of_decide_eq_false h
    grind
theorem piece_out (x y : Rat) : ∀ t : Tm, (t.piece x y).at x y = t.out x y
  | .inp true => by show (0 : Rat) * x + 1 * y + 0 = y; grind
  | .inp false => by show (1 : Rat) * x + 0 * y + 0 = x; grind
  | .num q => by show (0 : Rat) * x + 0 * y + q = q; grind
  | .times q t => by
    have ih := piece_out x y t
    unfold Fl.at at ih ⊢
    show (t.piece x y).a * q * x + (t.piece x y).b * q * y + (t.piece x y).c * q = q * t.out x y
    rw [← ih]
    grind
  | .add s t => by
    have i1 := piece_out x y s
    have i2 := piece_out x y t
    unfold Fl.at at i1 i2 ⊢
    show ((s.piece x y).a + (t.piece x y).a) * x + ((s.piece x y).b + (t.piece x y).b) * y + ((s.piece x y).c + (t.piece x y).c) = s.out x y + t.out x y
    rw [← i1, ← i2]
    grind
  | .size t => by
    have ih := piece_out x y t
    have e0 : (Fl.mk 0 0 0).at x y = 0 := by show (0 : Rat) * x + 0 * y + 0 = 0; grind
    show (if under (t.piece x y) ⟨0, 0, 0⟩ x y then (⟨(t.piece x y).a * (-1), (t.piece x y).b * (-1), (t.piece x y).c * (-1)⟩ : Fl) else t.piece x y).at x y = if t.out x y < 0 then - t.out x y else t.out x y
    cases q : under (t.piece x y) ⟨0, 0, 0⟩ x y with
    | true =>
      have h := under_t q
      rw [e0, ih] at h
      simp only [if_true]
      have e : (⟨(t.piece x y).a * (-1), (t.piece x y).b * (-1), (t.piece x y).c * (-1)⟩ : Fl).at x y = - t.out x y := by
        rw [← ih]
        unfold Fl.at
        grind
      rw [e]
      split <;> grind
    | false =>
      have h := under_f q
      rw [e0, ih] at h
      simp only [Bool.false_eq_true, if_false]
      rw [ih]
      split <;> grind
  | .more s t => by
    have i1 := piece_out x y s
    have i2 := piece_out x y t
    show (if under (s.piece x y) (t.piece x y) x y then t.piece x y else s.piece x y).at x y = if s.out x y < t.out x y then t.out x y else s.out x y
    cases q : under (s.piece x y) (t.piece x y) x y with
    | true =>
      have h := under_t q
      rw [i1, i2] at h
      simp only [if_true, i2]
      split <;> grind
    | false =>
      have h := under_f q
      rw [i1, i2] at h
      simp only [Bool.false_eq_true, if_false, i1]
      split <;> grind
  | .less s t => by
    have i1 := piece_out x y s
    have i2 := piece_out x y t
    show (if under (s.piece x y) (t.piece x y) x y then s.piece x y else t.piece x y).at x y = if s.out x y < t.out x y then s.out x y else t.out x y
    cases q : under (s.piece x y) (t.piece x y) x y with
    | true =>
      have h := under_t q
      rw [i1, i2] at h
      simp only [if_true, i1]
      split <;> grind
    | false =>
      have h := under_f q
      rw [i1, i2] at h
      simp only [Bool.false_eq_true, if_false, i2]
      split <;> grind
end Mp

set_option maxRecDepth 100000
set_option maxHeartbeats 4000000
/-! Pu4: pieces and outputs run. -/
namespace Mp
open PySem L2
theorem sm_zero (s : Nat) : Sm (s + 1) 0 := ⟨by show 0 < _; exact Nat.pow_pos (by decide), by show 1 < _; exact Nat.one_lt_two_pow (by omega)⟩
theorem sm_one (s : Nat) : Sm (s + 1) 1 := ⟨by show 1 < _; exact Nat.one_lt_two_pow (by omega), by show 1 < _; exact Nat.one_lt_two_pow (by omega)⟩
theorem sm_neg1 : Sm 1 (-1) := ⟨by decide, by decide⟩
theorem Sm.neg {s : Nat} {q : Rat} (h : Sm s q) : Sm s (-q) := ⟨by rw [Rat.neg_num, Int.natAbs_neg]; exact h.1, by rw [Rat.neg_den]; exact h.2⟩
theorem sm_mneg {s : Nat} {q : Rat} (h : Sm s q) : Sm s (q * (-1)) := by
  have e : q * (-1) = -q := by grind
  rw [e]
  exact h.neg
theorem Fl.S.mono {s s' : Nat} {f : Fl} (h : f.S s) (hs : s ≤ s') : f.S s' := ⟨h.1.mono hs, h.2.1.mono hs, h.2.2.mono hs⟩
theorem Tm.pos : ∀ t : Tm, 1 ≤ t.cnt
  | .inp _ => Nat.le_refl _
  | .num _ => Nat.le_refl _
  | .times _ t => by show 1 ≤ 1 + t.cnt; omega
  | .size t => by show 1 ≤ 1 + t.cnt; omega
  | .add s t => by show 1 ≤ 1 + (s.cnt + t.cnt); omega
  | .more s t => by show 1 ≤ 1 + (s.cnt + t.cnt); omega
  | .less s t => by show 1 ≤ 1 + (s.cnt + t.cnt); omega
theorem piece_S (x y : Rat) : ∀ t : Tm, t.Sm7 → (t.piece x y).S (8 * t.cnt)
  | .inp true, _ => ⟨sm_zero 7, sm_one 7, sm_zero 7⟩
  | .inp false, _ => ⟨sm_one 7, sm_zero 7, sm_zero 7⟩
  | .num q, h => ⟨sm_zero 7, sm_zero 7, Sm.mono (show Sm 7 q from h) (by show 7 ≤ 8 * 1; omega)⟩
  | .times q t, h => by
    have ih := piece_S x y t h.2
    have e : 8 * t.cnt + 7 ≤ 8 * (Tm.times q t).cnt := by show _ ≤ 8 * (1 + t.cnt); omega
    exact ⟨(ih.1.mul h.1).mono e, (ih.2.1.mul h.1).mono e, (ih.2.2.mul h.1).mono e⟩
  | .size t, h => by
    have ih := piece_S x y t h
    have e : 8 * t.cnt ≤ 8 * (Tm.size t).cnt := by show _ ≤ 8 * (1 + t.cnt); omega
    show (if under (t.piece x y) ⟨0, 0, 0⟩ x y then (⟨(t.piece x y).a * (-1), (t.piece x y).b * (-1), (t.piece x y).c * (-1)⟩ : Fl) else t.piece x y).S _
    split
    · exact ⟨(sm_mneg ih.1).mono e, (sm_mneg ih.2.1).mono e, (sm_mneg ih.2.2).mono e⟩
    · exact ih.mono e
  | .add s t, h => by
    have i1 := piece_S x y s h.1
    have i2 := piece_S x y t h.2
    have e : 8 * s.cnt + 8 * t.cnt + 1 ≤ 8 * (Tm.add s t).cnt := by show _ ≤ 8 * (1 + (s.cnt + t.cnt)); omega
    exact ⟨(i1.1.add i2.1).mono e, (i1.2.1.add i2.2.1).mono e, (i1.2.2.add i2.2.2).mono e⟩
  | .more s t, h => by
    have i1 := piece_S x y s h.1
    have i2 := piece_S x y t h.2
    have e1 : 8 * s.cnt ≤ 8 * (Tm.more s t).cnt := by show _ ≤ 8 * (1 + (s.cnt + t.cnt)); omega
    have e2 : 8 * t.cnt ≤ 8 * (Tm.more s t).cnt := by show _ ≤ 8 * (1 + (s.cnt + t.cnt)); omega
    show (if under (s.piece x y) (t.piece x y) x y then t.piece x y else s.piece x y).S _
    split
    · exact i2.mono e2
    · exact i1.mono e1
  | .less s t, h => by
    have i1 := piece_S x y s h.1
    have i2 := piece_S x y t h.2
    have e1 : 8 * s.cnt ≤ 8 * (Tm.less s t).cnt := by show _ ≤ 8 * (1 + (s.cnt + t.cnt)); omega
    have e2 : 8 * t.cnt ≤ 8 * (Tm.less s t).cnt := by show _ ≤ 8 * (1 + (s.cnt + t.cnt)); omega
    show (if under (s.piece x y) (t.piece x y) x y then s.piece x y else t.piece x y).S _
    split
    · exact i1.mono e1
    · exact i2.mono e2
theorem out_S {x y : Rat} {u : Nat} (hx : Sm u x) (hy : Sm u y) : ∀ t : Tm, t.Sm7 → Sm ((u + 8) * t.cnt) (t.out x y)
  | .inp true, _ => hy.mono (by show u ≤ (u + 8) * 1; omega)
  | .inp false, _ => hx.mono (by show u ≤ (u + 8) * 1; omega)
  | .num q, h => Sm.mono (show Sm 7 q from h) (by show 7 ≤ (u + 8) * 1; omega)
  | .times q t, h => ((show Sm 7 q from h.1).mul (out_S hx hy t h.2)).mono (by show _ ≤ (u + 8) * (1 + t.cnt); rw [Nat.mul_add]; omega)
  | .size t, h => by
    have ih := (out_S hx hy t h).mono (show (u + 8) * t.cnt ≤ (u + 8) * (Tm.size t).cnt by show _ ≤ (u + 8) * (1 + t.cnt); rw [Nat.mul_add]; omega)
    show Sm _ (if t.out x y < 0 then - t.out x y else t.out x y)
    split
    · exact ih.neg
    · exact ih
  | .add s t, h => ((out_S hx hy s h.1).add (out_S hx hy t h.2)).mono (by show _ ≤ (u + 8) * (1 + (s.cnt + t.cnt)); rw [Nat.mul_add, Nat.mul_add]; omega)
  | .more s t, h => by
    have e1 : (u + 8) * s.cnt ≤ (u + 8) * (Tm.more s t).cnt := by show _ ≤ (u + 8) * (1 + (s.cnt + t.cnt)); rw [Nat.mul_add, Nat.mul_add]; omega
    have e2 : (u + 8) * t.cnt ≤ (u + 8) * (Tm.more s t).cnt := by show _ ≤ (u + 8) * (1 + (s.cnt + t.cnt)); rw [Nat.mul_add, Nat.mul_add]; omega
    show Sm _ (if s.out x y < t.out x y then t.out x y else s.out x y)
    split
    · exact (out_S hx hy t h.2).mono e2
    · exact (out_S hx hy s h.1).mono e1
  | .less s t, h => by
    have e1 : (u + 8) * s.cnt ≤ (u + 8) * (Tm.less s t).cnt := by show _ ≤ (u + 8) * (1 + (s.cnt + t.cnt)); rw [Nat.mul_add, Nat.mul_add]; omega
    have e2 : (u + 8) * t.cnt ≤ (u + 8) * (Tm.less s t).cnt := by show _ ≤ (u + 8) * (1 + (s.cnt + t.cnt)); rw [Nat.mul_add, Nat.mul_add]; omega
    show Sm _ (if s.out x y < t.out x y then s.out x y else t.out x y)
    split
    · exact (out_S hx hy s h.1).mono e1
    · exact (out_S hx hy t h.2).mono e2
theorem c_eq_bool (a b : Bool) : cop .eq (.bool a) (.bool b) = some (a == b) := rfl
theorem bneg (i : Int) : (intOf (.int i)).map (fun i => PyData.int (-i)) = some (.int (-i)) := rfl
section
variable {G : Nat → Option D} {x y : Rat} {u : Nat}
theorem r_piece (hG : G 2 = some (f3 0 0 0)) (hx : Sm u x) (hy : Sm u y) (hu : u ≤ 1500) : ∀ (t : Tm) (m : Nat), t.Sm7 → t.cnt ≤ 60 → t.dp + 5 ≤ m → callN G tb m 20 [.d t.d, .d (pt x y)] = M.pure (t.piece x y).d
  | .inp b, m, h, hc, hm => by
    obtain ⟨m, rfl⟩ : ∃ k, m = k + 6 := ⟨m - 6, by have : (Tm.inp b).dp = 1 := rfl; omega⟩
    refine call_pure (g := fn_piece_of) rfl rfl fun μ => ?_
    cases b <;> simp only [Tm.d, fn_piece_of, exs, ex, ev, evv, evs, evi, evo, bind_pure, of_some, sbind_pure, snext_ret, snext_next, startE, lookD, List.map, List.length, List.replicate, List.cons_append, List.nil_append, List.append_nil, List.getElem?_cons_zero, List.getElem?_cons_succ, List.set_cons_zero, List.set_cons_succ, setT, Option.map_some, boolOf, idx_t, idx_l, atI0, atI1, atI2, c_eq_int, c_ne_int, c_lt, c_le, c_gt, c_ge, b_add, b_sub, bl_abs, intOf, se_in_num, se_in_in, if_true, Bool.false_eq_true, if_false] <;> rfl
  | .num q, m, h, hc, hm => by
    obtain ⟨m, rfl⟩ : ∃ k, m = k + 6 := ⟨m - 6, by have : (Tm.num q).dp = 1 := rfl; omega⟩
    refine call_pure (g := fn_piece_of) rfl rfl fun μ => ?_
    simp only [Tm.d, fn_piece_of, exs, ex, ev, evv, evs, evi, evo, bind_pure, of_some, sbind_pure, snext_ret, snext_next, startE, lookD, List.map, List.length, List.replicate, List.cons_append, List.nil_append, List.append_nil, List.getElem?_cons_zero, List.getElem?_cons_succ, List.set_cons_zero, List.set_cons_succ, setT, Option.map_some, boolOf, idx_t, idx_l, atI0, atI1, atI2, c_eq_int, c_ne_int, c_lt, c_le, c_gt, c_ge, b_add, b_sub, bl_abs, intOf, se_num_num]
    rfl
  | .times q t, m, h, hc, hm => by
    have hdp : (Tm.times q t).dp = t.dp + 1 := rfl
    have hct : (Tm.times q t).cnt = 1 + t.cnt := rfl
    obtain ⟨m, rfl⟩ : ∃ k, m = k + 5 := ⟨m - 5, by omega⟩
    refine call_pure (g := fn_piece_of) rfl rfl fun μ => ?_
    have ih := r_piece hG hx hy hu t (m + 4) h.2 (by omega) (by omega)
    have S := piece_S x y t h.2
    have sc : callN G tb (m + 4) 18 [.d (t.piece x y).d, .d (fr q)] = _ := r_scaled (n := m) S.1 S.2.1 S.2.2 h.1 (by omega)
    simp only [Tm.d, fn_piece_of, exs, ex, ev, evv, evs, evi, evo, bind_pure, of_some, sbind_pure, snext_ret, snext_next, startE, lookD, List.map, List.length, List.replicate, List.cons_append, List.nil_append, List.append_nil, List.getElem?_cons_zero, List.getElem?_cons_succ, List.set_cons_zero, List.set_cons_succ, setT, Option.map_some, boolOf, idx_t, idx_l, atI0, atI1, atI2, c_eq_int, c_ne_int, c_lt, c_le, c_gt, c_ge, b_add, b_sub, bl_abs, intOf, se_times_num, se_times_in, se_times_times, ih, sc]
    rfl
  | .size t, m, h, hc, hm => by
    have hdp : (Tm.size t).dp = t.dp + 1 := rfl
    have hct : (Tm.size t).cnt = 1 + t.cnt := rfl
    obtain ⟨m, rfl⟩ : ∃ k, m = k + 6 := ⟨m - 6, by omega⟩
    refine call_pure (g := fn_piece_of) rfl rfl fun μ => ?_
    have ih := r_piece hG hx hy hu t (m + 5) h (by omega) (by omega)
    have S := piece_S x y t h
    have un : callN G tb (m + 5) 19 [.d (t.piece x y).d, .d (f3 0 0 0), .d (pt x y)] = _ := r_under (n := m) (f := t.piece x y) (g := ⟨0, 0, 0⟩) (s := 8 * t.cnt) S ⟨(sm_zero 0).mono (by have := t.pos; omega), (sm_zero 0).mono (by have := t.pos; omega), (sm_zero 0).mono (by have := t.pos; omega)⟩ hx hy (by omega)
    have sc : callN G tb (m + 5) 18 [.d (t.piece x y).d, .d (fr (-1))] = _ := r_scaled (n := m + 1) S.1 S.2.1 S.2.2 sm_neg1 (by omega)
    have e1 : (PyData.tuple [.int (-1), .int 1]) = fr (-1) := rfl
    simp only [Tm.d, fn_piece_of, exs, ex, ev, evv, evs, evi, evo, bind_pure, of_some, sbind_pure, snext_ret, snext_next, startE, lookD, List.map, List.length, List.replicate, List.cons_append, List.nil_append, List.append_nil, List.getElem?_cons_zero, List.getElem?_cons_succ, List.set_cons_zero, List.set_cons_succ, setT, Option.map_some, boolOf, idx_t, idx_l, atI0, atI1, atI2, c_eq_int, c_ne_int, c_lt, c_le, c_gt, c_ge, b_add, b_sub, bl_abs, intOf, se_size_num, se_size_in, se_size_times, se_size_size, ih, hG, un, e1, sc]
    show _ = some (SR.ret (if under (t.piece x y) ⟨0, 0, 0⟩ x y then (⟨(t.piece x y).a * (-1), (t.piece x y).b * (-1), (t.piece x y).c * (-1)⟩ : Fl) else t.piece x y).d μ)
    cases under (t.piece x y) ⟨0, 0, 0⟩ x y <;> rfl
  | .add s t, m, h, hc, hm => by
    have hdp : (Tm.add s t).dp = max s.dp t.dp + 1 := rfl
    have hct : (Tm.add s t).cnt = 1 + (s.cnt + t.cnt) := rfl
    obtain ⟨m, rfl⟩ : ∃ k, m = k + 6 := ⟨m - 6, by omega⟩
    refine call_pure (g := fn_piece_of) rfl rfl fun μ => ?_
    have i1 := r_piece hG hx hy hu s (m + 5) h.1 (by omega) (by omega)
    have i2 := r_piece hG hx hy hu t (m + 5) h.2 (by omega) (by omega)
    have S := piece_S x y s h.1
    have S2 := piece_S x y t h.2
    have sm : callN G tb (m + 5) 17 [.d (s.piece x y).d, .d (t.piece x y).d] = _ := r_summed (n := m + 1) S.1 S.2.1 S.2.2 S2.1 S2.2.1 S2.2.2 (by omega)
    simp only [Tm.d, fn_piece_of, exs, ex, ev, evv, evs, evi, evo, bind_pure, of_some, sbind_pure, snext_ret, snext_next, startE, lookD, List.map, List.length, List.replicate, List.cons_append, List.nil_append, List.append_nil, List.getElem?_cons_zero, List.getElem?_cons_succ, List.set_cons_zero, List.set_cons_succ, setT, Option.map_some, boolOf, idx_t, idx_l, atI0, atI1, atI2, c_eq_int, c_ne_int, c_lt, c_le, c_gt, c_ge, b_add, b_sub, bl_abs, intOf, se_add_num, se_add_in, se_add_times, se_add_size, se_add_add, i1, i2, sm]
    rfl
  | .more s t, m, h, hc, hm => by
    have hdp : (Tm.more s t).dp = max s.dp t.dp + 1 := rfl
    have hct : (Tm.more s t).cnt = 1 + (s.cnt + t.cnt) := rfl
    obtain ⟨m, rfl⟩ : ∃ k, m = k + 6 := ⟨m - 6, by omega⟩
    refine call_pure (g := fn_piece_of) rfl rfl fun μ => ?_
    have i1 := r_piece hG hx hy hu s (m + 5) h.1 (by omega) (by omega)
    have i2 := r_piece hG hx hy hu t (m + 5) h.2 (by omega) (by omega)
    have un : callN G tb (m + 5) 19 [.d (s.piece x y).d, .d (t.piece x y).d, .d (pt x y)] = _ := r_under (n := m) (s := 8 * 60) ((piece_S x y s h.1).mono (by omega)) ((piece_S x y t h.2).mono (by omega)) hx hy (by omega)
    simp only [Tm.d, fn_piece_of, exs, ex, ev, evv, evs, evi, evo, bind_pure, of_some, sbind_pure, snext_ret, snext_next, startE, lookD, List.map, List.length, List.replicate, List.cons_append, List.nil_append, List.append_nil, List.getElem?_cons_zero, List.getElem?_cons_succ, List.set_cons_zero, List.set_cons_succ, setT, Option.map_some, boolOf, idx_t, idx_l, atI0, atI1, atI2, c_eq_int, c_ne_int, c_lt, c_le, c_gt, c_ge, b_add, b_sub, bl_abs, intOf, se_more_num, se_more_in, se_more_times, se_more_size, se_more_add, se_more_more, i1, i2, un, c_eq_bool]
    show _ = some (SR.ret (if under (s.piece x y) (t.piece x y) x y then t.piece x y else s.piece x y).d μ)
    cases under (s.piece x y) (t.piece x y) x y <;> rfl
  | .less s t, m, h, hc, hm => by
    have hdp : (Tm.less s t).dp = max s.dp t.dp + 1 := rfl
    have hct : (Tm.less s t).cnt = 1 + (s.cnt + t.cnt) := rfl
    obtain ⟨m, rfl⟩ : ∃ k, m = k + 6 := ⟨m - 6, by omega⟩
    refine call_pure (g := fn_piece_of) rfl rfl fun μ => ?_
    have i1 := r_piece hG hx hy hu s (m + 5) h.1 (by omega) (by omega)
    have i2 := r_piece hG hx hy hu t (m + 5) h.2 (by omega) (by omega)
    have un : callN G tb (m + 5) 19 [.d (s.piece x y).d, .d (t.piece x y).d, .d (pt x y)] = _ := r_under (n := m) (s := 8 * 60) ((piece_S x y s h.1).mono (by omega)) ((piece_S x y t h.2).mono (by omega)) hx hy (by omega)
    simp only [Tm.d, fn_piece_of, exs, ex, ev, evv, evs, evi, evo, bind_pure, of_some, sbind_pure, snext_ret, snext_next, startE, lookD, List.map, List.length, List.replicate, List.cons_append, List.nil_append, List.append_nil, List.getElem?_cons_zero, List.getElem?_cons_succ, List.set_cons_zero, List.set_cons_succ, setT, Option.map_some, boolOf, idx_t, idx_l, atI0, atI1, atI2, c_eq_int, c_ne_int, c_lt, c_le, c_gt, c_ge, b_add, b_sub, bl_abs, intOf, se_less_num, se_less_in, se_less_times, se_less_size, se_less_add, se_less_more, i1, i2, un, c_eq_bool]
    show _ = some (SR.ret (if under (s.piece x y) (t.piece x y) x y then s.piece x y else t.piece x y).d μ)
    cases under (s.piece x y) (t.piece x y) x y <;> rfl
theorem abs_fr (q : Rat) : fr (if q < 0 then -q else q) = .tuple [.int (q.num.natAbs : Int), .int (q.den : Int)] := by
  have hn : q < 0 ↔ q.num < 0 := by
    rw [Rat.lt_iff]
    show q.num * 1 < 0 * _ ↔ _
    omega
  by_cases h : q < 0
  · rw [if_pos h]
    have := hn.mp h
    show PyData.tuple [.int (-q).num, .int ((-q).den : Int)] = _
    rw [Rat.neg_num, Rat.neg_den]
    congr 3
    omega
  · rw [if_neg h]
    have := mt hn.mpr h
    show PyData.tuple [.int q.num, .int (q.den : Int)] = _
    congr 3
    omega
theorem r_out (hx : Sm u x) (hy : Sm u y) (hu : u ≤ 130) : ∀ (t : Tm) (m : Nat), t.Sm7 → t.cnt ≤ 60 → t.dp + 2 ≤ m → callN G tb m 33 [.d t.d, .d (pt x y)] = M.pure (fr (t.out x y))
  | .inp b, m, h, hc, hm => by
    obtain ⟨m, rfl⟩ : ∃ k, m = k + 3 := ⟨m - 3, by have : (Tm.inp b).dp = 1 := rfl; omega⟩
    refine call_pure (g := fn__law_out) rfl rfl fun μ => ?_
    cases b <;> simp only [Tm.d, pt, fn__law_out, exs, ex, ev, evv, evs, evi, evo, bind_pure, of_some, sbind_pure, snext_ret, snext_next, startE, lookD, List.map, List.length, List.replicate, List.cons_append, List.nil_append, List.append_nil, List.getElem?_cons_zero, List.getElem?_cons_succ, List.set_cons_zero, List.set_cons_succ, setT, Option.map_some, boolOf, idx_t, idx_l, atI0, atI1, atI2, c_eq_int, c_ne_int, c_lt, c_le, c_gt, c_ge, b_add, b_sub, bl_abs, intOf, se_in_in, if_true, Bool.false_eq_true, if_false] <;> rfl
  | .num q, m, h, hc, hm => by
    obtain ⟨m, rfl⟩ : ∃ k, m = k + 3 := ⟨m - 3, by have : (Tm.num q).dp = 1 := rfl; omega⟩
    refine call_pure (g := fn__law_out) rfl rfl fun μ => ?_
    simp only [Tm.d, fn__law_out, exs, ex, ev, evv, evs, evi, evo, bind_pure, of_some, sbind_pure, snext_ret, snext_next, startE, lookD, List.map, List.length, List.replicate, List.cons_append, List.nil_append, List.append_nil, List.getElem?_cons_zero, List.getElem?_cons_succ, List.set_cons_zero, List.set_cons_succ, setT, Option.map_some, boolOf, idx_t, idx_l, atI0, atI1, atI2, c_eq_int, c_ne_int, c_lt, c_le, c_gt, c_ge, b_add, b_sub, bl_abs, intOf, se_num_in, se_num_num]
    rfl
  | .times q t, m, h, hc, hm => by
    have hdp : (Tm.times q t).dp = t.dp + 1 := rfl
    have hct : (Tm.times q t).cnt = 1 + t.cnt := rfl
    obtain ⟨m, rfl⟩ : ∃ k, m = k + 3 := ⟨m - 3, by omega⟩
    refine call_pure (g := fn__law_out) rfl rfl fun μ => ?_
    have ih := r_out hx hy hu t (m + 2) h.2 (by omega) (by omega)
    have sc : callN G tb (m + 2) 31 [.d (fr q), .d (fr (t.out x y))] = _ := r_ltimes (n := m) h.1 ((out_S hx hy t h.2).mono (show _ ≤ 138 * 60 from Nat.mul_le_mul (by omega) (by omega))) (by omega)
    simp only [Tm.d, fn__law_out, exs, ex, ev, evv, evs, evi, evo, bind_pure, of_some, sbind_pure, snext_ret, snext_next, startE, lookD, List.map, List.length, List.replicate, List.cons_append, List.nil_append, List.append_nil, List.getElem?_cons_zero, List.getElem?_cons_succ, List.set_cons_zero, List.set_cons_succ, setT, Option.map_some, boolOf, idx_t, idx_l, atI0, atI1, atI2, c_eq_int, c_ne_int, c_lt, c_le, c_gt, c_ge, b_add, b_sub, bl_abs, intOf, se_times_num, se_times_in, se_times_times, ih, sc]
    rfl
  | .size t, m, h, hc, hm => by
    have hdp : (Tm.size t).dp = t.dp + 1 := rfl
    have hct : (Tm.size t).cnt = 1 + t.cnt := rfl
    obtain ⟨m, rfl⟩ : ∃ k, m = k + 3 := ⟨m - 3, by omega⟩
    refine call_pure (g := fn__law_out) rfl rfl fun μ => ?_
    have ih := r_out hx hy hu t (m + 2) h (by omega) (by omega)
    simp only [Tm.d, fn__law_out, exs, ex, ev, evv, evs, evi, evo, bind_pure, of_some, sbind_pure, snext_ret, snext_next, startE, lookD, List.map, List.length, List.replicate, List.cons_append, List.nil_append, List.append_nil, List.getElem?_cons_zero, List.getElem?_cons_succ, List.set_cons_zero, List.set_cons_succ, setT, Option.map_some, boolOf, idx_t, idx_l, atI0, atI1, atI2, c_eq_int, c_ne_int, c_lt, c_le, c_gt, c_ge, b_add, b_sub, bl_abs, intOf, se_size_num, se_size_in, se_size_times, se_size_size, ih, fr]
    exact congrArg (fun d => some (SR.ret d μ)) (abs_fr (t.out x y)).symm
  | .add s t, m, h, hc, hm => by
    have hdp : (Tm.add s t).dp = max s.dp t.dp + 1 := rfl
    have hct : (Tm.add s t).cnt = 1 + (s.cnt + t.cnt) := rfl
    obtain ⟨m, rfl⟩ : ∃ k, m = k + 3 := ⟨m - 3, by omega⟩
    refine call_pure (g := fn__law_out) rfl rfl fun μ => ?_
    have i1 := r_out hx hy hu s (m + 2) h.1 (by omega) (by omega)
    have i2 := r_out hx hy hu t (m + 2) h.2 (by omega) (by omega)
    have b : (u + 8) * s.cnt + (u + 8) * t.cnt ≤ 138 * 60 := by rw [← Nat.mul_add]; exact Nat.mul_le_mul (by omega) (by omega)
    have sm : callN G tb (m + 2) 30 [.d (fr (s.out x y)), .d (fr (t.out x y))] = _ := r_lplus (n := m) (out_S hx hy s h.1) (out_S hx hy t h.2) (by omega)
    simp only [Tm.d, fn__law_out, exs, ex, ev, evv, evs, evi, evo, bind_pure, of_some, sbind_pure, snext_ret, snext_next, startE, lookD, List.map, List.length, List.replicate, List.cons_append, List.nil_append, List.append_nil, List.getElem?_cons_zero, List.getElem?_cons_succ, List.set_cons_zero, List.set_cons_succ, setT, Option.map_some, boolOf, idx_t, idx_l, atI0, atI1, atI2, c_eq_int, c_ne_int, c_lt, c_le, c_gt, c_ge, b_add, b_sub, bl_abs, intOf, se_add_num, se_add_in, se_add_times, se_add_size, se_add_add, i1, i2, sm]
    rfl
  | .more s t, m, h, hc, hm => by
    have hdp : (Tm.more s t).dp = max s.dp t.dp + 1 := rfl
    have hct : (Tm.more s t).cnt = 1 + (s.cnt + t.cnt) := rfl
    obtain ⟨m, rfl⟩ : ∃ k, m = k + 3 := ⟨m - 3, by omega⟩
    refine call_pure (g := fn__law_out) rfl rfl fun μ => ?_
    have i1 := r_out hx hy hu s (m + 2) h.1 (by omega) (by omega)
    have i2 := r_out hx hy hu t (m + 2) h.2 (by omega) (by omega)
    have b : (u + 8) * s.cnt + (u + 8) * t.cnt ≤ 138 * 60 := by rw [← Nat.mul_add]; exact Nat.mul_le_mul (by omega) (by omega)
    have un : callN G tb (m + 2) 32 [.d (fr (s.out x y)), .d (fr (t.out x y))] = _ := r_below (n := m + 1) (out_S hx hy s h.1) (out_S hx hy t h.2) (by omega)
    simp only [Tm.d, fn__law_out, exs, ex, ev, evv, evs, evi, evo, bind_pure, of_some, sbind_pure, snext_ret, snext_next, startE, lookD, List.map, List.length, List.replicate, List.cons_append, List.nil_append, List.append_nil, List.getElem?_cons_zero, List.getElem?_cons_succ, List.set_cons_zero, List.set_cons_succ, setT, Option.map_some, boolOf, idx_t, idx_l, atI0, atI1, atI2, c_eq_int, c_ne_int, c_lt, c_le, c_gt, c_ge, b_add, b_sub, bl_abs, intOf, se_more_num, se_more_in, se_more_times, se_more_size, se_more_add, se_more_more, i1, i2, un, c_eq_bool]
    show _ = some (SR.ret (fr (if s.out x y < t.out x y then t.out x y else s.out x y)) μ)
    by_cases q : s.out x y < t.out x y
    · simp only [q, decide_true, if_true]; rfl
    · simp only [q, decide_false, if_false]; rfl
  | .less s t, m, h, hc, hm => by
    have hdp : (Tm.less s t).dp = max s.dp t.dp + 1 := rfl
    have hct : (Tm.less s t).cnt = 1 + (s.cnt + t.cnt) := rfl
    obtain ⟨m, rfl⟩ : ∃ k, m = k + 3 := ⟨m - 3, by omega⟩
    refine call_pure (g := fn__law_out) rfl rfl fun μ => ?_
    have i1 := r_out hx hy hu s (m + 2) h.1 (by omega) (by omega)
    have i2 := r_out hx hy hu t (m + 2) h.2 (by omega) (by omega)
    have b : (u + 8) * s.cnt + (u + 8) * t.cnt ≤ 138 * 60 := by rw [← Nat.mul_add]; exact Nat.mul_le_mul (by omega) (by omega)
    have un : callN G tb (m + 2) 32 [.d (fr (s.out x y)), .d (fr (t.out x y))] = _ := r_below (n := m + 1) (out_S hx hy s h.1) (out_S hx hy t h.2) (by omega)
    simp only [Tm.d, fn__law_out, exs, ex, ev, evv, evs, evi, evo, bind_pure, of_some, sbind_pure, snext_ret, snext_next, startE, lookD, List.map, List.length, List.replicate, List.cons_append, List.nil_append, List.append_nil, List.getElem?_cons_zero, List.getElem?_cons_succ, List.set_cons_zero, List.set_cons_succ, setT, Option.map_some, boolOf, idx_t, idx_l, atI0, atI1, atI2, c_eq_int, c_ne_int, c_lt, c_le, c_gt, c_ge, b_add, b_sub, bl_abs, intOf, se_less_num, se_less_in, se_less_times, se_less_size, se_less_add, se_less_more, i1, i2, un, c_eq_bool]
    show _ = some (SR.ret (fr (if s.out x y < t.out x y then s.out x y else t.out x y)) μ)
    by_cases q : s.out x y < t.out x y
    · simp only [q, decide_true, if_true]; rfl
    · simp only [q, decide_false, if_false]; rfl
theorem r_value_of (hG : G 2 = some (f3 0 0 0)) (hx : Sm u x) (hy : Sm u y) (hu : u ≤ 130) (t : Tm) (m : Nat) (h : t.Sm7) (hc : t.cnt ≤ 60) (hm : t.dp + 6 ≤ m) : callN G tb m 21 [.d t.d, .d (pt x y)] = M.pure (fr (t.out x y)) := by
  obtain ⟨m, rfl⟩ : ∃ k, m = k + 6 := ⟨m - 6, by omega⟩
  refine call_pure (g := fn_value_of) rfl rfl fun μ => ?_
  have i1 := r_piece hG hx hy (by omega) t (m + 5) h hc (by omega)
  have S := (piece_S x y t h).mono (show 8 * t.cnt ≤ 480 by omega)
  have st : callN G tb (m + 5) 16 [.d (t.piece x y).d, .d (pt x y)] = M.pure (fr ((t.piece x y).at x y)) := r_straight (n := m + 1) S.1 S.2.1 S.2.2 hx hy (by omega)
  rw [piece_out] at st
  simp only [fn_value_of, exs, ex, ev, evv, evs, evi, evo, bind_pure, of_some, sbind_pure, snext_ret, snext_next, startE, lookD, List.map, List.length, List.replicate, List.cons_append, List.nil_append, List.append_nil, List.getElem?_cons_zero, List.getElem?_cons_succ, List.set_cons_zero, List.set_cons_succ, setT, Option.map_some, boolOf, idx_t, idx_l, atI0, atI1, atI2, c_eq_int, c_ne_int, c_lt, c_le, c_gt, c_ge, b_add, b_sub, bl_abs, intOf, i1, st]
end
end Mp

set_option maxRecDepth 100000
set_option maxHeartbeats 4000000
/-! Pu5: what is a number, a point, a term. -/
namespace Mp
open PySem L2
def okL (d : D) : Prop := PyData.canLay0 d = true
theorem okL.cons {x : D} {r : List D} (h : okL (.tuple (x :: r))) : okL x ∧ okL (.tuple r) := Bool.and_eq_true_iff.mp (show (PyData.canLay0 x && PyData.canLayAll0 r) = true from h)
theorem okL.ty {d : D} (h : okL d) : tyOk d = true := by
  cases d with
  | dict kvs => cases h
  | _ => rfl
theorem c_eq_str {x : Str} (hx : okL (.str x)) {y : Str} (hy : okL (.str y)) : cop .eq (.str x) (.str y) = some (x == y) := by
  have e1 : okEq (.str x) = true := by
    show (PyData.canLay0 (.str x) && decide (0 ≤ 64)) = true
    rw [hx]; rfl
  have e2 : okEq (.str y) = true := by
    show (PyData.canLay0 (.str y) && decide (0 ≤ 64)) = true
    rw [hy]; rfl
  show (if okEq (.str x) && okEq (.str y) then some (PyData.eqv (.str x) (.str y)) else none) = _
  rw [e1, e2]
  rfl
theorem len_t (xs : List D) : bltD .len [.tuple xs] = some (.int (xs.length : Int)) := rfl
theorem isi_of {d : D} (t : Ty) (h : okL d) : (if tyOk d then some (PyData.bool (isTy d t)) else none) = some (.bool (isTy d t)) := if_pos h.ty
def whB (lo hi : Int) : D → Bool
  | .int i => decide (lo ≤ i) && decide (i ≤ hi)
  | _ => false
def frP (most : Int) : D → D → Bool
  | .int i, .int j => decide (-most ≤ i) && decide (i ≤ most) && (decide (1 ≤ j) && decide (j ≤ most)) && (Nat.gcd i.natAbs j.natAbs == 1)
  | _, _ => false
def frB (most : Int) : D → Bool
  | .tuple [a, b] => frP most a b
  | _ => false
def ptB : D → Bool
  | .tuple [a, b] => frB (10 ^ 30) a && frB (10 ^ 30) b
  | _ => false
section
variable {G : Nat → Option D} {n : Nat}
theorem r_whole (d : D) (lo hi : Int) (h : okL d) : callN G tb (n + 1) 6 [.d d, .d (.int lo), .d (.int hi)] = M.pure (.bool (whB lo hi d)) := by
  refine call_pure (g := fn_is_whole) rfl rfl fun μ => ?_
  cases d with
  | int i =>
    simp only [fn_is_whole, exs, ex, ev, evv, evs, evi, evo, bind_pure, of_some, sbind_pure, snext_ret, snext_next, startE, lookD, List.map, List.length, List.replicate, List.cons_append, List.nil_append, List.append_nil, List.getElem?_cons_zero, List.getElem?_cons_succ, List.set_cons_zero, List.set_cons_succ, setT, Option.map_some, boolOf, idx_t, idx_l, atI0, atI1, atI2, c_eq_int, c_ne_int, c_lt, c_le, c_gt, c_ge, b_add, b_sub, bl_abs, intOf, tyOk, if_true, isTy, Bool.not_false]
    by_cases h1 : lo ≤ i
    · simp only [h1, decide_true, exs, ex, ev, evv, evs, evi, evo, bind_pure, of_some, sbind_pure, snext_ret, snext_next, startE, lookD, List.map, List.length, List.replicate, List.cons_append, List.nil_append, List.append_nil, List.getElem?_cons_zero, List.getElem?_cons_succ, List.set_cons_zero, List.set_cons_succ, setT, Option.map_some, boolOf, idx_t, idx_l, atI0, atI1, atI2, c_eq_int, c_ne_int, c_lt, c_le, c_gt, c_ge, b_add, b_sub, bl_abs, intOf, whB, Bool.true_and]
    · simp only [h1, decide_false, exs, ex, ev, evv, evs, evi, evo, bind_pure, of_some, sbind_pure, snext_ret, snext_next, startE, lookD, List.map, List.length, List.replicate, List.cons_append, List.nil_append, List.append_nil, List.getElem?_cons_zero, List.getElem?_cons_succ, List.set_cons_zero, List.set_cons_succ, setT, Option.map_some, boolOf, idx_t, idx_l, atI0, atI1, atI2, c_eq_int, c_ne_int, c_lt, c_le, c_gt, c_ge, b_add, b_sub, bl_abs, intOf, whB, Bool.false_and]
  | dict kvs => cases h
  | _ => simp only [fn_is_whole, exs, ex, ev, evv, evs, evi, evo, bind_pure, of_some, sbind_pure, snext_ret, snext_next, startE, lookD, List.map, List.length, List.replicate, List.cons_append, List.nil_append, List.append_nil, List.getElem?_cons_zero, List.getElem?_cons_succ, List.set_cons_zero, List.set_cons_succ, setT, Option.map_some, boolOf, idx_t, idx_l, atI0, atI1, atI2, c_eq_int, c_ne_int, c_lt, c_le, c_gt, c_ge, b_add, b_sub, bl_abs, intOf, tyOk, if_true, isTy, Bool.not_true, whB]
theorem wh_of {lo hi : Int} {d : D} (h : whB lo hi d = true) : ∃ i, d = .int i ∧ lo ≤ i ∧ i ≤ hi := by
  cases d with
  | int i =>
    have h : (decide (lo ≤ i) && decide (i ≤ hi)) = true := h
    rw [Bool.and_eq_true, decide_eq_true_eq, decide_eq_true_eq] at h
    exact ⟨i, rfl, h⟩
  | _ => cases h
theorem frB_no {most : Int} {a b : D} (h : (whB (-most) most a && whB 1 most b) = false) : frB most (.tuple [a, b]) = false := by
  cases a with
  | int i =>
    cases b with
    | int j =>
      show (decide (-most ≤ i) && decide (i ≤ most) && (decide (1 ≤ j) && decide (j ≤ most)) && _) = false
      rw [show (decide (-most ≤ i) && decide (i ≤ most) && (decide (1 ≤ j) && decide (j ≤ most))) = false from h]
      rfl
    | _ => rfl
  | _ => rfl
theorem r_fraction (d : D) (most : Int) (h : okL d) : callN G tb (n + 2) 7 [.d d, .d (.int most)] = M.pure (.bool (frB most d)) := by
  refine call_pure (g := fn_is_fraction) rfl rfl fun μ => ?_
  cases d with
  | dict kvs => cases h
  | tuple xs =>
    rcases xs with _ | ⟨a, _ | ⟨b, _ | ⟨c, r⟩⟩⟩
    · simp only [fn_is_fraction, exs, ex, ev, evv, evs, evi, evo, bind_pure, of_some, sbind_pure, snext_ret, snext_next, startE, lookD, List.map, List.length, List.replicate, List.cons_append, List.nil_append, List.append_nil, List.getElem?_cons_zero, List.getElem?_cons_succ, List.set_cons_zero, List.set_cons_succ, setT, Option.map_some, boolOf, idx_t, idx_l, atI0, atI1, atI2, c_eq_int, c_ne_int, c_lt, c_le, c_gt, c_ge, b_add, b_sub, bl_abs, intOf, tyOk, if_true, isTy, Bool.not_true, len_t]
      rfl
    · have e2 : (!(((0 + 1 : Nat) : Int) == 2)) = true := rfl
      simp only [fn_is_fraction, exs, ex, ev, evv, evs, evi, evo, bind_pure, of_some, sbind_pure, snext_ret, snext_next, startE, lookD, List.map, List.length, List.replicate, List.cons_append, List.nil_append, List.append_nil, List.getElem?_cons_zero, List.getElem?_cons_succ, List.set_cons_zero, List.set_cons_succ, setT, Option.map_some, boolOf, idx_t, idx_l, atI0, atI1, atI2, c_eq_int, c_ne_int, c_lt, c_le, c_gt, c_ge, b_add, b_sub, bl_abs, intOf, tyOk, if_true, isTy, Bool.not_true, len_t, e2]
      rfl
    · have ha := h.cons.1
      have hb := h.cons.2.cons.1
      have e2 : (!(((([] : List D).length + 1 + 1 : Nat) : Int) == 2)) = false := rfl
      have w1 : callN G tb (n + 1) 6 [.d a, .d (.int (-most)), .d (.int most)] = _ := r_whole a (-most) most ha
      have w2 : callN G tb (n + 1) 6 [.d b, .d (.int 1), .d (.int most)] = _ := r_whole b 1 most hb
      simp only [List.length] at e2
      simp only [fn_is_fraction, exs, ex, ev, evv, evs, evi, evo, bind_pure, of_some, sbind_pure, snext_ret, snext_next, startE, lookD, List.map, List.length, List.replicate, List.cons_append, List.nil_append, List.append_nil, List.getElem?_cons_zero, List.getElem?_cons_succ, List.set_cons_zero, List.set_cons_succ, setT, Option.map_some, boolOf, idx_t, idx_l, atI0, atI1, atI2, c_eq_int, c_ne_int, c_lt, c_le, c_gt, c_ge, b_add, b_sub, bl_abs, intOf, tyOk, if_true, isTy, Bool.not_true, len_t, e2, w1, w2]
      cases q1 : whB (-most) most a with
      | false =>
        rw [frB_no (by rw [q1]; rfl)]
        simp only [Bool.not_false, exs, ex, ev, evv, evs, evi, evo, bind_pure, of_some, sbind_pure, snext_ret, snext_next, startE, lookD, List.map, List.length, List.replicate, List.cons_append, List.nil_append, List.append_nil, List.getElem?_cons_zero, List.getElem?_cons_succ, List.set_cons_zero, List.set_cons_succ, setT, Option.map_some, boolOf, idx_t, idx_l, atI0, atI1, atI2, c_eq_int, c_ne_int, c_lt, c_le, c_gt, c_ge, b_add, b_sub, bl_abs, intOf]
      | true =>
        cases q2 : whB 1 most b with
        | false =>
          rw [frB_no (by rw [q1, q2]; rfl)]
          simp only [Bool.not_true, Bool.not_false, exs, ex, ev, evv, evs, evi, evo, bind_pure, of_some, sbind_pure, snext_ret, snext_next, startE, lookD, List.map, List.length, List.replicate, List.cons_append, List.nil_append, List.append_nil, List.getElem?_cons_zero, List.getElem?_cons_succ, List.set_cons_zero, List.set_cons_succ, setT, Option.map_some, boolOf, idx_t, idx_l, atI0, atI1, atI2, c_eq_int, c_ne_int, c_lt, c_le, c_gt, c_ge, b_add, b_sub, bl_abs, intOf]
        | true =>
          obtain ⟨i, rfl, i1, i2⟩ := wh_of q1
          obtain ⟨j, rfl, j1, j2⟩ := wh_of q2
          have ej : (j : Int) = ((j.natAbs : Nat) : Int) := by omega
          have dv : callN G tb (n + 1) 1 [.d (.int (i.natAbs : Int)), .d (.int j)] = M.pure (.int ((Nat.gcd i.natAbs j.natAbs : Nat) : Int)) := by
            rw [ej]
            exact r_divisor (n := n) i.natAbs j.natAbs
          simp only [Bool.not_true, exs, ex, ev, evv, evs, evi, evo, bind_pure, of_some, sbind_pure, snext_ret, snext_next, startE, lookD, List.map, List.length, List.replicate, List.cons_append, List.nil_append, List.append_nil, List.getElem?_cons_zero, List.getElem?_cons_succ, List.set_cons_zero, List.set_cons_succ, setT, Option.map_some, boolOf, idx_t, idx_l, atI0, atI1, atI2, c_eq_int, c_ne_int, c_lt, c_le, c_gt, c_ge, b_add, b_sub, bl_abs, intOf, dv]
          show some (SR.ret (.bool (((Nat.gcd i.natAbs j.natAbs : Nat) : Int) == 1)) μ) = some (SR.ret (.bool (decide (-most ≤ i) && decide (i ≤ most) && (decide (1 ≤ j) && decide (j ≤ most)) && (Nat.gcd i.natAbs j.natAbs == 1))) μ)
          rw [decide_eq_true i1, decide_eq_true i2, decide_eq_true j1, decide_eq_true j2]
          congr 3
          rw [Bool.eq_iff_iff]
          simp only [Bool.and_self, Bool.true_and, beq_iff_eq]
          omega
    · have e2 : (!(((r.length + 1 + 1 + 1 : Nat) : Int) == 2)) = true := by
        rw [Bool.not_eq_true', beq_eq_false_iff_ne]
        omega
      simp only [fn_is_fraction, exs, ex, ev, evv, evs, evi, evo, bind_pure, of_some, sbind_pure, snext_ret, snext_next, startE, lookD, List.map, List.length, List.replicate, List.cons_append, List.nil_append, List.append_nil, List.getElem?_cons_zero, List.getElem?_cons_succ, List.set_cons_zero, List.set_cons_succ, setT, Option.map_some, boolOf, idx_t, idx_l, atI0, atI1, atI2, c_eq_int, c_ne_int, c_lt, c_le, c_gt, c_ge, b_add, b_sub, bl_abs, intOf, tyOk, if_true, isTy, Bool.not_true, len_t, e2]
      rfl
  | _ => simp only [fn_is_fraction, exs, ex, ev, evv, evs, evi, evo, bind_pure, of_some, sbind_pure, snext_ret, snext_next, startE, lookD, List.map, List.length, List.replicate, List.cons_append, List.nil_append, List.append_nil, List.getElem?_cons_zero, List.getElem?_cons_succ, List.set_cons_zero, List.set_cons_succ, setT, Option.map_some, boolOf, idx_t, idx_l, atI0, atI1, atI2, c_eq_int, c_ne_int, c_lt, c_le, c_gt, c_ge, b_add, b_sub, bl_abs, intOf, tyOk, if_true, isTy, Bool.not_false, frB]
theorem bl_all2 (a b : Bool) : bltD .all [.list [.bool a, .bool b]] = some (.bool (a && b)) := by cases a <;> cases b <;> rfl
theorem p30 : bop .pow (.int 10) (.int 30) = some (.int (10 ^ 30)) := by
  show (if powOk 10 30 = true then some (PyData.int ((10 : Int) ^ (30 : Int).toNat)) else none) = _
  rw [if_pos (by decide +kernel)]
  rfl
theorem r_point (d : D) (h : okL d) : callN G tb (n + 3) 8 [.d d] = M.pure (.bool (ptB d)) := by
  refine call_pure (g := fn_is_point) rfl rfl fun μ => ?_
  cases d with
  | dict kvs => cases h
  | tuple xs =>
    rcases xs with _ | ⟨a, _ | ⟨b, _ | ⟨c, r⟩⟩⟩
    · simp only [fn_is_point, exs, ex, ev, evv, evs, evi, evo, bind_pure, of_some, sbind_pure, snext_ret, snext_next, startE, lookD, List.map, List.length, List.replicate, List.cons_append, List.nil_append, List.append_nil, List.getElem?_cons_zero, List.getElem?_cons_succ, List.set_cons_zero, List.set_cons_succ, setT, Option.map_some, boolOf, idx_t, idx_l, atI0, atI1, atI2, c_eq_int, c_ne_int, c_lt, c_le, c_gt, c_ge, b_add, b_sub, bl_abs, intOf, tyOk, if_true, isTy, len_t]
      rfl
    · have e2 : (((0 + 1 : Nat) : Int) == 2) = false := rfl
      simp only [fn_is_point, exs, ex, ev, evv, evs, evi, evo, bind_pure, of_some, sbind_pure, snext_ret, snext_next, startE, lookD, List.map, List.length, List.replicate, List.cons_append, List.nil_append, List.append_nil, List.getElem?_cons_zero, List.getElem?_cons_succ, List.set_cons_zero, List.set_cons_succ, setT, Option.map_some, boolOf, idx_t, idx_l, atI0, atI1, atI2, c_eq_int, c_ne_int, c_lt, c_le, c_gt, c_ge, b_add, b_sub, bl_abs, intOf, tyOk, if_true, isTy, len_t, e2]
      rfl
    · have ha := h.cons.1
      have hb := h.cons.2.cons.1
      have e2 : (((([] : List D).length + 1 + 1 : Nat) : Int) == 2) = true := rfl
      have w1 : callN G tb (n + 2) 7 [.d a, .d (.int (10 ^ 30))] = _ := r_fraction a (10 ^ 30) ha
      have w2 : callN G tb (n + 2) 7 [.d b, .d (.int (10 ^ 30))] = _ := r_fraction b (10 ^ 30) hb
      simp only [List.length] at e2
      simp only [fn_is_point, exs, ex, ev, evv, evs, evi, evo, bind_pure, of_some, sbind_pure, snext_ret, snext_next, startE, lookD, List.map, List.length, List.replicate, List.cons_append, List.nil_append, List.append_nil, List.getElem?_cons_zero, List.getElem?_cons_succ, List.set_cons_zero, List.set_cons_succ, setT, Option.map_some, boolOf, idx_t, idx_l, atI0, atI1, atI2, c_eq_int, c_ne_int, c_lt, c_le, c_gt, c_ge, b_add, b_sub, bl_abs, intOf, tyOk, if_true, isTy, len_t, e2, seqOf, lenOk2, mapM_cons, mapM_nil, p30, w1, w2, nox_pure, bl_all2]
      rfl
    · have e2 : (((r.length + 1 + 1 + 1 : Nat) : Int) == 2) = false := by
        rw [beq_eq_false_iff_ne]
        omega
      simp only [fn_is_point, exs, ex, ev, evv, evs, evi, evo, bind_pure, of_some, sbind_pure, snext_ret, snext_next, startE, lookD, List.map, List.length, List.replicate, List.cons_append, List.nil_append, List.append_nil, List.getElem?_cons_zero, List.getElem?_cons_succ, List.set_cons_zero, List.set_cons_succ, setT, Option.map_some, boolOf, idx_t, idx_l, atI0, atI1, atI2, c_eq_int, c_ne_int, c_lt, c_le, c_gt, c_ge, b_add, b_sub, bl_abs, intOf, tyOk, if_true, isTy, len_t, e2]
      rfl
  | _ => simp only [fn_is_point, exs, ex, ev, evv, evs, evi, evo, bind_pure, of_some, sbind_pure, snext_ret, snext_next, startE, lookD, List.map, List.length, List.replicate, List.cons_append, List.nil_append, List.append_nil, List.getElem?_cons_zero, List.getElem?_cons_succ, List.set_cons_zero, List.set_cons_succ, setT, Option.map_some, boolOf, idx_t, idx_l, atI0, atI1, atI2, c_eq_int, c_ne_int, c_lt, c_le, c_gt, c_ge, b_add, b_sub, bl_abs, intOf, tyOk, if_true, isTy, ptB]
end
end Mp

set_option maxRecDepth 100000
set_option maxHeartbeats 4000000
/-! Pu6: what is a term; value. -/
namespace Mp
open PySem L2
def shB : Nat → D → Bool
  | 0, _ => false
  | n + 1, .tuple (.str k :: x :: r) =>
    if k == Str.ofString "in" then (match r with
      | [] => whB 0 1 x
      | _ => false)
    else if k == Str.ofString "num" then (match r with
      | [] => frB 99 x
      | _ => false)
    else if k == Str.ofString "size" then (match r with
      | [] => shB n x
      | _ => false)
    else match r with
      | [z] => if k == Str.ofString "times" then frB 99 x && shB n z
        else if k == Str.ofString "add" || (k == Str.ofString "more" || (k == Str.ofString "less" || false)) then shB n x && shB n z else false
      | _ => false
  | _, _ => false
theorem okIn : okL (.str (Str.ofString "in")) := by unfold okL; decide +kernel
theorem okNum : okL (.str (Str.ofString "num")) := by unfold okL; decide +kernel
theorem okSize : okL (.str (Str.ofString "size")) := by unfold okL; decide +kernel
theorem okTimes : okL (.str (Str.ofString "times")) := by unfold okL; decide +kernel
theorem okAdd : okL (.str (Str.ofString "add")) := by unfold okL; decide +kernel
theorem okMore : okL (.str (Str.ofString "more")) := by unfold okL; decide +kernel
theorem okLess : okL (.str (Str.ofString "less")) := by unfold okL; decide +kernel
theorem str_beq (a b : Str) : PyData.eqv (.str a) (.str b) = (a == b) := rfl
theorem nin3 (k : Str) : cop .nin (.str k) (.tuple [.str (Str.ofString "add"), .str (Str.ofString "more"), .str (Str.ofString "less")]) = some (!(k == Str.ofString "add" || (k == Str.ofString "more" || (k == Str.ofString "less" || false)))) := by
  show some (!((Str.ofString "add" == k) || ((Str.ofString "more" == k) || ((Str.ofString "less" == k) || false)))) = _
  rw [Bool.beq_comm (a := Str.ofString "add"), Bool.beq_comm (a := Str.ofString "more"), Bool.beq_comm (a := Str.ofString "less")]
section
variable {G : Nat → Option D}
theorem r_shaped : ∀ (n : Nat) (d : D) (m : Nat), okL d → n + 4 ≤ m → callN G tb m 9 [.d d, .d (.int (n : Int))] = M.pure (.bool (shB n d)) := by
  intro n
  induction n with
  | zero =>
    intro d m hd hm
    obtain ⟨m, rfl⟩ : ∃ k, m = k + 1 := ⟨m - 1, by omega⟩
    refine call_pure (g := fn_is_shaped) rfl rfl fun μ => ?_
    have e0 : (((0 : Nat) : Int) == 0) = true := rfl
    cases d with
    | dict kvs => cases hd
    | tuple xs =>
      rcases xs with _ | ⟨x, _ | ⟨y, r⟩⟩
      · simp only [fn_is_shaped, exs, ex, ev, evv, evs, evi, evo, bind_pure, of_some, sbind_pure, snext_ret, snext_next, startE, lookD, List.map, List.length, List.replicate, List.cons_append, List.nil_append, List.append_nil, List.getElem?_cons_zero, List.getElem?_cons_succ, List.set_cons_zero, List.set_cons_succ, setT, Option.map_some, boolOf, idx_t, idx_l, atI0, atI1, atI2, c_eq_int, c_ne_int, c_lt, c_le, c_gt, c_ge, b_add, b_sub, bl_abs, intOf, tyOk, if_true, isTy, Bool.not_true, len_t]
        rfl
      · have e1 : decide (((0 + 1 : Nat) : Int) < 2) = true := rfl
        simp only [fn_is_shaped, exs, ex, ev, evv, evs, evi, evo, bind_pure, of_some, sbind_pure, snext_ret, snext_next, startE, lookD, List.map, List.length, List.replicate, List.cons_append, List.nil_append, List.append_nil, List.getElem?_cons_zero, List.getElem?_cons_succ, List.set_cons_zero, List.set_cons_succ, setT, Option.map_some, boolOf, idx_t, idx_l, atI0, atI1, atI2, c_eq_int, c_ne_int, c_lt, c_le, c_gt, c_ge, b_add, b_sub, bl_abs, intOf, tyOk, if_true, isTy, Bool.not_true, len_t, e1]
        rfl
      · have e1 : decide (((r.length + 1 + 1 : Nat) : Int) < 2) = false := by rw [decide_eq_false_iff_not]; omega
        cases x with
        | dict kvs => cases hd.cons.1
        | _ =>
          simp only [fn_is_shaped, exs, ex, ev, evv, evs, evi, evo, bind_pure, of_some, sbind_pure, snext_ret, snext_next, startE, lookD, List.map, List.length, List.replicate, List.cons_append, List.nil_append, List.append_nil, List.getElem?_cons_zero, List.getElem?_cons_succ, List.set_cons_zero, List.set_cons_succ, setT, Option.map_some, boolOf, idx_t, idx_l, atI0, atI1, atI2, c_eq_int, c_ne_int, c_lt, c_le, c_gt, c_ge, b_add, b_sub, bl_abs, intOf, tyOk, if_true, isTy, Bool.not_true, Bool.not_false, len_t, e1, e0]
          rfl
    | _ =>
      simp only [fn_is_shaped, exs, ex, ev, evv, evs, evi, evo, bind_pure, of_some, sbind_pure, snext_ret, snext_next, startE, lookD, List.map, List.length, List.replicate, List.cons_append, List.nil_append, List.append_nil, List.getElem?_cons_zero, List.getElem?_cons_succ, List.set_cons_zero, List.set_cons_succ, setT, Option.map_some, boolOf, idx_t, idx_l, atI0, atI1, atI2, c_eq_int, c_ne_int, c_lt, c_le, c_gt, c_ge, b_add, b_sub, bl_abs, intOf, tyOk, if_true, isTy, Bool.not_false]
      rfl
  | succ n ih =>
    intro d m hd hm
    obtain ⟨m, rfl⟩ : ∃ k, m = k + 4 := ⟨m - 4, by omega⟩
    refine call_pure (g := fn_is_shaped) rfl rfl fun μ => ?_
    have e0 : (((n + 1 : Nat) : Int) == 0) = false := by rw [beq_eq_false_iff_ne]; omega
    have en1 : ((n + 1 : Nat) : Int) - 1 = (n : Int) := by omega
    cases d with
    | dict kvs => cases hd
    | tuple xs =>
      rcases xs with _ | ⟨x, _ | ⟨y, r⟩⟩
      · simp only [fn_is_shaped, exs, ex, ev, evv, evs, evi, evo, bind_pure, of_some, sbind_pure, snext_ret, snext_next, startE, lookD, List.map, List.length, List.replicate, List.cons_append, List.nil_append, List.append_nil, List.getElem?_cons_zero, List.getElem?_cons_succ, List.set_cons_zero, List.set_cons_succ, setT, Option.map_some, boolOf, idx_t, idx_l, atI0, atI1, atI2, c_eq_int, c_ne_int, c_lt, c_le, c_gt, c_ge, b_add, b_sub, bl_abs, intOf, tyOk, if_true, isTy, Bool.not_true, len_t]
        rfl
      · have e1 : decide (((0 + 1 : Nat) : Int) < 2) = true := rfl
        simp only [fn_is_shaped, exs, ex, ev, evv, evs, evi, evo, bind_pure, of_some, sbind_pure, snext_ret, snext_next, startE, lookD, List.map, List.length, List.replicate, List.cons_append, List.nil_append, List.append_nil, List.getElem?_cons_zero, List.getElem?_cons_succ, List.set_cons_zero, List.set_cons_succ, setT, Option.map_some, boolOf, idx_t, idx_l, atI0, atI1, atI2, c_eq_int, c_ne_int, c_lt, c_le, c_gt, c_ge, b_add, b_sub, bl_abs, intOf, tyOk, if_true, isTy, Bool.not_true, len_t, e1]
        cases x <;> rfl
      · have e1 : decide (((r.length + 1 + 1 : Nat) : Int) < 2) = false := by rw [decide_eq_false_iff_not]; omega
        have hy := hd.cons.2.cons.1
        cases x with
        | str k =>
          have hk := hd.cons.1
          have w1 : callN G tb (m + 3) 6 [.d y, .d (.int 0), .d (.int 1)] = _ := r_whole (n := m + 2) y 0 1 hy
          have w2 : callN G tb (m + 3) 7 [.d y, .d (.int 99)] = _ := r_fraction (n := m + 1) y 99 hy
          have w3 : callN G tb (m + 3) 9 [.d y, .d (.int (n : Int))] = _ := ih y (m + 3) hy (by omega)
          rcases r with _ | ⟨z, _ | ⟨v, r⟩⟩
          · have e1 : decide (((0 + 1 + 1 : Nat) : Int) < 2) = false := rfl
            have e2 : (((0 + 1 + 1 : Nat) : Int) == 2) = true := rfl
            have e3 : (!(((0 + 1 + 1 : Nat) : Int) == 3)) = true := rfl
            cases q1 : k == Str.ofString "in" with
            | true => simp only [fn_is_shaped, exs, ex, ev, evv, evs, evi, evo, bind_pure, of_some, sbind_pure, snext_ret, snext_next, startE, lookD, List.map, List.length, List.replicate, List.cons_append, List.nil_append, List.append_nil, List.getElem?_cons_zero, List.getElem?_cons_succ, List.set_cons_zero, List.set_cons_succ, setT, Option.map_some, boolOf, idx_t, idx_l, atI0, atI1, atI2, c_eq_int, c_ne_int, c_lt, c_le, c_gt, c_ge, b_add, b_sub, bl_abs, intOf, tyOk, if_true, isTy, Bool.not_true, Bool.not_false, len_t, e1, e0, c_eq_str hk okIn, c_eq_str hk okNum, c_eq_str hk okSize, c_eq_str hk okTimes, nin3, w1, w2, w3, en1, e2, e3, Bool.false_eq_true, if_false, shB, q1]
            | false =>
              cases q2 : k == Str.ofString "num" with
              | true => simp only [fn_is_shaped, exs, ex, ev, evv, evs, evi, evo, bind_pure, of_some, sbind_pure, snext_ret, snext_next, startE, lookD, List.map, List.length, List.replicate, List.cons_append, List.nil_append, List.append_nil, List.getElem?_cons_zero, List.getElem?_cons_succ, List.set_cons_zero, List.set_cons_succ, setT, Option.map_some, boolOf, idx_t, idx_l, atI0, atI1, atI2, c_eq_int, c_ne_int, c_lt, c_le, c_gt, c_ge, b_add, b_sub, bl_abs, intOf, tyOk, if_true, isTy, Bool.not_true, Bool.not_false, len_t, e1, e0, c_eq_str hk okIn, c_eq_str hk okNum, c_eq_str hk okSize, c_eq_str hk okTimes, nin3, w1, w2, w3, en1, e2, e3, Bool.false_eq_true, if_false, shB, q1, q2]
              | false =>
                cases q3 : k == Str.ofString "size" with
                | true => simp only [fn_is_shaped, exs, ex, ev, evv, evs, evi, evo, bind_pure, of_some, sbind_pure, snext_ret, snext_next, startE, lookD, List.map, List.length, List.replicate, List.cons_append, List.nil_append, List.append_nil, List.getElem?_cons_zero, List.getElem?_cons_succ, List.set_cons_zero, List.set_cons_succ, setT, Option.map_some, boolOf, idx_t, idx_l, atI0, atI1, atI2, c_eq_int, c_ne_int, c_lt, c_le, c_gt, c_ge, b_add, b_sub, bl_abs, intOf, tyOk, if_true, isTy, Bool.not_true, Bool.not_false, len_t, e1, e0, c_eq_str hk okIn, c_eq_str hk okNum, c_eq_str hk okSize, c_eq_str hk okTimes, nin3, w1, w2, w3, en1, e2, e3, Bool.false_eq_true, if_false, shB, q1, q2, q3]
                | false => simp only [fn_is_shaped, exs, ex, ev, evv, evs, evi, evo, bind_pure, of_some, sbind_pure, snext_ret, snext_next, startE, lookD, List.map, List.length, List.replicate, List.cons_append, List.nil_append, List.append_nil, List.getElem?_cons_zero, List.getElem?_cons_succ, List.set_cons_zero, List.set_cons_succ, setT, Option.map_some, boolOf, idx_t, idx_l, atI0, atI1, atI2, c_eq_int, c_ne_int, c_lt, c_le, c_gt, c_ge, b_add, b_sub, bl_abs, intOf, tyOk, if_true, isTy, Bool.not_true, Bool.not_false, len_t, e1, e0, c_eq_str hk okIn, c_eq_str hk okNum, c_eq_str hk okSize, c_eq_str hk okTimes, nin3, w1, w2, w3, en1, e2, e3, Bool.false_eq_true, if_false, shB, q1, q2, q3]
          · have hz := hd.cons.2.cons.2.cons.1
            have w4 : callN G tb (m + 3) 9 [.d z, .d (.int (n : Int))] = _ := ih z (m + 3) hz (by omega)
            have e1 : decide (((0 + 1 + 1 + 1 : Nat) : Int) < 2) = false := rfl
            have e2 : (((0 + 1 + 1 + 1 : Nat) : Int) == 2) = false := rfl
            have e3 : (!(((0 + 1 + 1 + 1 : Nat) : Int) == 3)) = false := rfl
            cases q1 : k == Str.ofString "in" with
            | true => simp only [fn_is_shaped, exs, ex, ev, evv, evs, evi, evo, bind_pure, of_some, sbind_pure, snext_ret, snext_next, startE, lookD, List.map, List.length, List.replicate, List.cons_append, List.nil_append, List.append_nil, List.getElem?_cons_zero, List.getElem?_cons_succ, List.set_cons_zero, List.set_cons_succ, setT, Option.map_some, boolOf, idx_t, idx_l, atI0, atI1, atI2, c_eq_int, c_ne_int, c_lt, c_le, c_gt, c_ge, b_add, b_sub, bl_abs, intOf, tyOk, if_true, isTy, Bool.not_true, Bool.not_false, len_t, e1, e0, c_eq_str hk okIn, c_eq_str hk okNum, c_eq_str hk okSize, c_eq_str hk okTimes, nin3, w1, w2, w3, en1, e2, e3, Bool.false_eq_true, if_false, shB, q1]
            | false =>
              cases q2 : k == Str.ofString "num" with
              | true => simp only [fn_is_shaped, exs, ex, ev, evv, evs, evi, evo, bind_pure, of_some, sbind_pure, snext_ret, snext_next, startE, lookD, List.map, List.length, List.replicate, List.cons_append, List.nil_append, List.append_nil, List.getElem?_cons_zero, List.getElem?_cons_succ, List.set_cons_zero, List.set_cons_succ, setT, Option.map_some, boolOf, idx_t, idx_l, atI0, atI1, atI2, c_eq_int, c_ne_int, c_lt, c_le, c_gt, c_ge, b_add, b_sub, bl_abs, intOf, tyOk, if_true, isTy, Bool.not_true, Bool.not_false, len_t, e1, e0, c_eq_str hk okIn, c_eq_str hk okNum, c_eq_str hk okSize, c_eq_str hk okTimes, nin3, w1, w2, w3, en1, e2, e3, Bool.false_eq_true, if_false, shB, q1, q2]
              | false =>
                cases q3 : k == Str.ofString "size" with
                | true => simp only [fn_is_shaped, exs, ex, ev, evv, evs, evi, evo, bind_pure, of_some, sbind_pure, snext_ret, snext_next, startE, lookD, List.map, List.length, List.replicate, List.cons_append, List.nil_append, List.append_nil, List.getElem?_cons_zero, List.getElem?_cons_succ, List.set_cons_zero, List.set_cons_succ, setT, Option.map_some, boolOf, idx_t, idx_l, atI0, atI1, atI2, c_eq_int, c_ne_int, c_lt, c_le, c_gt, c_ge, b_add, b_sub, bl_abs, intOf, tyOk, if_true, isTy, Bool.not_true, Bool.not_false, len_t, e1, e0, c_eq_str hk okIn, c_eq_str hk okNum, c_eq_str hk okSize, c_eq_str hk okTimes, nin3, w1, w2, w3, en1, e2, e3, Bool.false_eq_true, if_false, shB, q1, q2, q3]
                | false =>
                  cases q4 : k == Str.ofString "times" with
                  | true => cases q5 : frB 99 y <;> simp only [fn_is_shaped, exs, ex, ev, evv, evs, evi, evo, bind_pure, of_some, sbind_pure, snext_ret, snext_next, startE, lookD, List.map, List.length, List.replicate, List.cons_append, List.nil_append, List.append_nil, List.getElem?_cons_zero, List.getElem?_cons_succ, List.set_cons_zero, List.set_cons_succ, setT, Option.map_some, boolOf, idx_t, idx_l, atI0, atI1, atI2, c_eq_int, c_ne_int, c_lt, c_le, c_gt, c_ge, b_add, b_sub, bl_abs, intOf, tyOk, if_true, isTy, Bool.not_true, Bool.not_false, len_t, e1, e0, c_eq_str hk okIn, c_eq_str hk okNum, c_eq_str hk okSize, c_eq_str hk okTimes, nin3, w1, w2, w3, en1, e2, e3, Bool.false_eq_true, if_false, shB, q1, q2, q3, q4, q5, w4, Bool.true_and, Bool.false_and]
                  | false =>
                    cases q5 : (k == Str.ofString "add" || (k == Str.ofString "more" || (k == Str.ofString "less" || false))) with
                    | false => simp only [fn_is_shaped, exs, ex, ev, evv, evs, evi, evo, bind_pure, of_some, sbind_pure, snext_ret, snext_next, startE, lookD, List.map, List.length, List.replicate, List.cons_append, List.nil_append, List.append_nil, List.getElem?_cons_zero, List.getElem?_cons_succ, List.set_cons_zero, List.set_cons_succ, setT, Option.map_some, boolOf, idx_t, idx_l, atI0, atI1, atI2, c_eq_int, c_ne_int, c_lt, c_le, c_gt, c_ge, b_add, b_sub, bl_abs, intOf, tyOk, if_true, isTy, Bool.not_true, Bool.not_false, len_t, e1, e0, c_eq_str hk okIn, c_eq_str hk okNum, c_eq_str hk okSize, c_eq_str hk okTimes, nin3, w1, w2, w3, en1, e2, e3, Bool.false_eq_true, if_false, shB, q1, q2, q3, q4, q5]
                    | true => cases q6 : shB n y <;> simp only [fn_is_shaped, exs, ex, ev, evv, evs, evi, evo, bind_pure, of_some, sbind_pure, snext_ret, snext_next, startE, lookD, List.map, List.length, List.replicate, List.cons_append, List.nil_append, List.append_nil, List.getElem?_cons_zero, List.getElem?_cons_succ, List.set_cons_zero, List.set_cons_succ, setT, Option.map_some, boolOf, idx_t, idx_l, atI0, atI1, atI2, c_eq_int, c_ne_int, c_lt, c_le, c_gt, c_ge, b_add, b_sub, bl_abs, intOf, tyOk, if_true, isTy, Bool.not_true, Bool.not_false, len_t, e1, e0, c_eq_str hk okIn, c_eq_str hk okNum, c_eq_str hk okSize, c_eq_str hk okTimes, nin3, w1, w2, w3, en1, e2, e3, Bool.false_eq_true, if_false, shB, q1, q2, q3, q4, q5, q6, w4, Bool.true_and, Bool.false_and]
          · have e1 : decide (((r.length + 1 + 1 + 1 + 1 : Nat) : Int) < 2) = false := by rw [decide_eq_false_iff_not]; omega
            have e2 : (((r.length + 1 + 1 + 1 + 1 : Nat) : Int) == 2) = false := by rw [beq_eq_false_iff_ne]; omega
            have e3 : (!(((r.length + 1 + 1 + 1 + 1 : Nat) : Int) == 3)) = true := by rw [Bool.not_eq_true', beq_eq_false_iff_ne]; omega
            cases q1 : k == Str.ofString "in" with
            | true => simp only [fn_is_shaped, exs, ex, ev, evv, evs, evi, evo, bind_pure, of_some, sbind_pure, snext_ret, snext_next, startE, lookD, List.map, List.length, List.replicate, List.cons_append, List.nil_append, List.append_nil, List.getElem?_cons_zero, List.getElem?_cons_succ, List.set_cons_zero, List.set_cons_succ, setT, Option.map_some, boolOf, idx_t, idx_l, atI0, atI1, atI2, c_eq_int, c_ne_int, c_lt, c_le, c_gt, c_ge, b_add, b_sub, bl_abs, intOf, tyOk, if_true, isTy, Bool.not_true, Bool.not_false, len_t, e1, e0, c_eq_str hk okIn, c_eq_str hk okNum, c_eq_str hk okSize, c_eq_str hk okTimes, nin3, w1, w2, w3, en1, e2, e3, Bool.false_eq_true, if_false, shB, q1]
            | false =>
              cases q2 : k == Str.ofString "num" with
              | true => simp only [fn_is_shaped, exs, ex, ev, evv, evs, evi, evo, bind_pure, of_some, sbind_pure, snext_ret, snext_next, startE, lookD, List.map, List.length, List.replicate, List.cons_append, List.nil_append, List.append_nil, List.getElem?_cons_zero, List.getElem?_cons_succ, List.set_cons_zero, List.set_cons_succ, setT, Option.map_some, boolOf, idx_t, idx_l, atI0, atI1, atI2, c_eq_int, c_ne_int, c_lt, c_le, c_gt, c_ge, b_add, b_sub, bl_abs, intOf, tyOk, if_true, isTy, Bool.not_true, Bool.not_false, len_t, e1, e0, c_eq_str hk okIn, c_eq_str hk okNum, c_eq_str hk okSize, c_eq_str hk okTimes, nin3, w1, w2, w3, en1, e2, e3, Bool.false_eq_true, if_false, shB, q1, q2]
              | false =>
                cases q3 : k == Str.ofString "size" with
                | true => simp only [fn_is_shaped, exs, ex, ev, evv, evs, evi, evo, bind_pure, of_some, sbind_pure, snext_ret, snext_next, startE, lookD, List.map, List.length, List.replicate, List.cons_append, List.nil_append, List.append_nil, List.getElem?_cons_zero, List.getElem?_cons_succ, List.set_cons_zero, List.set_cons_succ, setT, Option.map_some, boolOf, idx_t, idx_l, atI0, atI1, atI2, c_eq_int, c_ne_int, c_lt, c_le, c_gt, c_ge, b_add, b_sub, bl_abs, intOf, tyOk, if_true, isTy, Bool.not_true, Bool.not_false, len_t, e1, e0, c_eq_str hk okIn, c_eq_str hk okNum, c_eq_str hk okSize, c_eq_str hk okTimes, nin3, w1, w2, w3, en1, e2, e3, Bool.false_eq_true, if_false, shB, q1, q2, q3]
                | false => simp only [fn_is_shaped, exs, ex, ev, evv, evs, evi, evo, bind_pure, of_some, sbind_pure, snext_ret, snext_next, startE, lookD, List.map, List.length, List.replicate, List.cons_append, List.nil_append, List.append_nil, List.getElem?_cons_zero, List.getElem?_cons_succ, List.set_cons_zero, List.set_cons_succ, setT, Option.map_some, boolOf, idx_t, idx_l, atI0, atI1, atI2, c_eq_int, c_ne_int, c_lt, c_le, c_gt, c_ge, b_add, b_sub, bl_abs, intOf, tyOk, if_true, isTy, Bool.not_true, Bool.not_false, len_t, e1, e0, c_eq_str hk okIn, c_eq_str hk okNum, c_eq_str hk okSize, c_eq_str hk okTimes, nin3, w1, w2, w3, en1, e2, e3, Bool.false_eq_true, if_false, shB, q1, q2, q3]
        | dict kvs => cases hd.cons.1
        | _ =>
          simp only [fn_is_shaped, exs, ex, ev, evv, evs, evi, evo, bind_pure, of_some, sbind_pure, snext_ret, snext_next, startE, lookD, List.map, List.length, List.replicate, List.cons_append, List.nil_append, List.append_nil, List.getElem?_cons_zero, List.getElem?_cons_succ, List.set_cons_zero, List.set_cons_succ, setT, Option.map_some, boolOf, idx_t, idx_l, atI0, atI1, atI2, c_eq_int, c_ne_int, c_lt, c_le, c_gt, c_ge, b_add, b_sub, bl_abs, intOf, tyOk, if_true, isTy, Bool.not_true, Bool.not_false, len_t, e1]
          rfl
    | _ =>
      simp only [fn_is_shaped, exs, ex, ev, evv, evs, evi, evo, bind_pure, of_some, sbind_pure, snext_ret, snext_next, startE, lookD, List.map, List.length, List.replicate, List.cons_append, List.nil_append, List.append_nil, List.getElem?_cons_zero, List.getElem?_cons_succ, List.set_cons_zero, List.set_cons_succ, setT, Option.map_some, boolOf, idx_t, idx_l, atI0, atI1, atI2, c_eq_int, c_ne_int, c_lt, c_le, c_gt, c_ge, b_add, b_sub, bl_abs, intOf, tyOk, if_true, isTy, Bool.not_false]
      rfl
end
end Mp

set_option maxRecDepth 100000
set_option maxHeartbeats 4000000
/-! Pu7: terms counted; is_term; value. -/
namespace Mp
open PySem L2
def q99 (q : Rat) : Prop := -99 ≤ q.num ∧ q.num ≤ 99 ∧ (q.den : Int) ≤ 99
theorem q99.sm {q : Rat} (h : q99 q) : Sm 7 q := ⟨by have := h.1; have := h.2.1; show _ < 128; omega, by have := h.2.2; show _ < 128; omega⟩
theorem fr_in {most : Int} {d : D} (h : frB most d = true) : ∃ q : Rat, d = fr q ∧ -most ≤ q.num ∧ q.num ≤ most ∧ (q.den : Int) ≤ most := by
  unfold frB at h
  split at h
  · rename_i a b
    unfold frP at h
    split at h
    · rename_i i j
      simp only [Bool.and_eq_true, decide_eq_true_eq, beq_iff_eq] at h
      obtain ⟨⟨⟨h1, h2⟩, h3, h4⟩, h5⟩ := h
      refine ⟨⟨i, j.natAbs, by omega, h5⟩, ?_, h1, h2, ?_⟩
      · show _ = PyData.tuple [.int i, .int ((j.natAbs : Nat) : Int)]
        congr 3
        congr 1
        omega
      · show ((j.natAbs : Nat) : Int) ≤ most
        omega
    · cases h
  · cases h
theorem fr_ok {most : Int} {q : Rat} (h1 : -most ≤ q.num) (h2 : q.num ≤ most) (h3 : (q.den : Int) ≤ most) : frB most (fr q) = true := by
  show (decide (-most ≤ q.num) && decide (q.num ≤ most) && (decide ((1 : Int) ≤ (q.den : Int)) && decide ((q.den : Int) ≤ most)) && (Nat.gcd q.num.natAbs ((q.den : Int)).natAbs == 1)) = true
  have hd := q.den_nz
  have e : ((q.den : Int)).natAbs = q.den := by omega
  have g : Nat.gcd q.num.natAbs q.den = 1 := q.reduced
  rw [decide_eq_true h1, decide_eq_true h2, decide_eq_true h3, decide_eq_true (by omega : (1 : Int) ≤ (q.den : Int)), e, g]
  rfl
def Tm.Q : Tm → Prop
  | .inp _ => True
  | .num q => q99 q
  | .times q t => q99 q ∧ t.Q
  | .size t => t.Q
  | .add s t => s.Q ∧ t.Q
  | .more s t => s.Q ∧ t.Q
  | .less s t => s.Q ∧ t.Q
theorem Tm.Q.sm : ∀ {t : Tm}, t.Q → t.Sm7
  | .inp _, _ => trivial
  | .num q, h => q99.sm h
  | .times q t, h => ⟨q99.sm h.1, Tm.Q.sm h.2⟩
  | .size t, h => Tm.Q.sm (t := t) h
  | .add s t, h => ⟨Tm.Q.sm h.1, Tm.Q.sm h.2⟩
  | .more s t, h => ⟨Tm.Q.sm h.1, Tm.Q.sm h.2⟩
  | .less s t, h => ⟨Tm.Q.sm h.1, Tm.Q.sm h.2⟩
theorem sh_tm : ∀ (n : Nat) (d : D), shB n d = true → ∃ t : Tm, d = t.d ∧ t.Q ∧ t.dp ≤ n := by
  intro n
  induction n with
  | zero => intro d h; cases h
  | succ n ih =>
    intro d h
    unfold shB at h
    split at h
    · cases h
    · rename_i n' k x r hn
      cases hn
      split at h
      · rename_i hk
        have hk := beq_iff_eq.mp hk
        subst hk
        split at h
        · obtain ⟨i, rfl, h1, h2⟩ := wh_of h
          have : i = 0 ∨ i = 1 := by omega
          rcases this with e | e <;> subst e
          · exact ⟨.inp false, rfl, trivial, by show 1 ≤ _; omega⟩
          · exact ⟨.inp true, rfl, trivial, by show 1 ≤ _; omega⟩
        · cases h
      · split at h
        · rename_i _ hk
          have hk := beq_iff_eq.mp hk
          subst hk
          split at h
          · obtain ⟨q, rfl, h1, h2, h3⟩ := fr_in h
            exact ⟨.num q, rfl, ⟨h1, h2, h3⟩, by show 1 ≤ _; omega⟩
          · cases h
        · split at h
          · rename_i _ _ hk
            have hk := beq_iff_eq.mp hk
            subst hk
            split at h
            · obtain ⟨t, rfl, h1, h2⟩ := ih _ h
              exact ⟨.size t, rfl, h1, by show t.dp + 1 ≤ _; omega⟩
            · cases h
          · split at h
            · rename_i z
              split at h
              · rename_i hk
                have hk := beq_iff_eq.mp hk
                subst hk
                rw [Bool.and_eq_true] at h
                obtain ⟨q, rfl, h1, h2, h3⟩ := fr_in h.1
                obtain ⟨t, rfl, h4, h5⟩ := ih _ h.2
                exact ⟨.times q t, rfl, ⟨⟨h1, h2, h3⟩, h4⟩, by show t.dp + 1 ≤ _; omega⟩
              · split at h
                · rename_i hk
                  rw [Bool.and_eq_true] at h
                  obtain ⟨s, rfl, h1, h2⟩ := ih _ h.1
                  obtain ⟨t, rfl, h4, h5⟩ := ih _ h.2
                  simp only [Bool.or_eq_true, Bool.or_false, beq_iff_eq] at hk
                  rcases hk with e | e | e <;> subst e
                  · exact ⟨.add s t, rfl, ⟨h1, h4⟩, by show max s.dp t.dp + 1 ≤ _; omega⟩
                  · exact ⟨.more s t, rfl, ⟨h1, h4⟩, by show max s.dp t.dp + 1 ≤ _; omega⟩
                  · exact ⟨.less s t, rfl, ⟨h1, h4⟩, by show max s.dp t.dp + 1 ≤ _; omega⟩
                · cases h
            · cases h
    · cases h
theorem ok_fr (q : Rat) : okL (fr q) := rfl
theorem ok_tup {xs : List D} (h : ∀ d ∈ xs, okL d) : okL (.tuple xs) := by
  induction xs with
  | nil => rfl
  | cons x r ih => exact Bool.and_eq_true_iff.mpr ⟨h x List.mem_cons_self, ih fun d hd => h d (List.mem_cons_of_mem _ hd)⟩
theorem Tm.okd : ∀ t : Tm, okL t.d
  | .inp b => ok_tup (by intro d hd; simp only [List.mem_cons, List.not_mem_nil, or_false] at hd; rcases hd with e | e <;> subst e; exact okIn; rfl)
  | .num q => ok_tup (by intro d hd; simp only [List.mem_cons, List.not_mem_nil, or_false] at hd; rcases hd with e | e <;> subst e; exact okNum; exact ok_fr q)
  | .times q t => ok_tup (by intro d hd; simp only [List.mem_cons, List.not_mem_nil, or_false] at hd; rcases hd with e | e | e <;> subst e; exact okTimes; exact ok_fr q; exact t.okd)
  | .size t => ok_tup (by intro d hd; simp only [List.mem_cons, List.not_mem_nil, or_false] at hd; rcases hd with e | e <;> subst e; exact okSize; exact t.okd)
  | .add s t => ok_tup (by intro d hd; simp only [List.mem_cons, List.not_mem_nil, or_false] at hd; rcases hd with e | e | e <;> subst e; exact okAdd; exact s.okd; exact t.okd)
  | .more s t => ok_tup (by intro d hd; simp only [List.mem_cons, List.not_mem_nil, or_false] at hd; rcases hd with e | e | e <;> subst e; exact okMore; exact s.okd; exact t.okd)
  | .less s t => ok_tup (by intro d hd; simp only [List.mem_cons, List.not_mem_nil, or_false] at hd; rcases hd with e | e | e <;> subst e; exact okLess; exact s.okd; exact t.okd)
def Tm.cuts : Tm → Nat
  | .inp _ => 0
  | .num _ => 0
  | .times _ t => t.cuts
  | .size t => 1 + t.cuts
  | .add s t => s.cuts + t.cuts
  | .more s t => 1 + (s.cuts + t.cuts)
  | .less s t => 1 + (s.cuts + t.cuts)
def Tm.parts : Tm → List Tm
  | .inp _ => []
  | .num _ => []
  | .times _ t => [t]
  | .size t => [t]
  | .add s t => [s, t]
  | .more s t => [s, t]
  | .less s t => [s, t]
theorem sum0 : bltD .sum [.list []] = some (.int 0) := rfl
theorem sum1 (a : Int) : bltD .sum [.list [.int a]] = some (.int a) := by
  show some (PyData.int (a + 0)) = _
  rw [Int.add_zero]
theorem sum2 (a b : Int) : bltD .sum [.list [.int a, .int b]] = some (.int (a + b)) := by
  show some (PyData.int (a + (b + 0))) = _
  rw [Int.add_zero]
theorem lenOk0 : lenOk [] = some [] := rfl
theorem lenOk1 (a : D) : lenOk [a] = some [a] := rfl
theorem inn_of (x y : D) : cop .inn x y = inD x y := by cases x <;> cases y <;> rfl
theorem bl_int (b : Bool) : bltD .int [.bool b] = some (.int (if b then 1 else 0)) := rfl
section
variable {G : Nat → Option D}
theorem r_parts (t : Tm) (m : Nat) : callN G tb (m + 1) 10 [.d t.d] = M.pure (.list (t.parts.map Tm.d)) := by
  refine call_pure (g := fn_parts_of) rfl rfl fun μ => ?_
  cases t <;> simp only [Tm.d, fn_parts_of, exs, ex, ev, evv, evs, evi, evo, bind_pure, of_some, sbind_pure, snext_ret, snext_next, startE, lookD, List.map, List.length, List.replicate, List.cons_append, List.nil_append, List.append_nil, List.getElem?_cons_zero, List.getElem?_cons_succ, List.set_cons_zero, List.set_cons_succ, setT, Option.map_some, boolOf, idx_t, idx_l, atI0, atI1, atI2, c_eq_int, c_ne_int, c_lt, c_le, c_gt, c_ge, b_add, b_sub, bl_abs, intOf, inn_of, si_in2_in, si_in2_num, si_in2_times, si_in2_size, si_in2_add, si_in2_more, si_in2_less, se_times_size, se_size_size, se_add_size, se_more_size, se_less_size, se_times_times, se_add_times, se_more_times, se_less_times, Tm.parts]
theorem r_count : ∀ (t : Tm) (m : Nat), t.dp + 1 ≤ m → callN G tb m 11 [.d t.d] = M.pure (.int (t.cnt : Int)) := by
  intro t
  induction t with
  | inp b =>
    intro m hm
    obtain ⟨m, rfl⟩ : ∃ k, m = k + 2 := ⟨m - 2, by have : (Tm.inp b).dp = 1 := rfl; omega⟩
    refine call_pure (g := fn_count_of) rfl rfl fun μ => ?_
    have hp := r_parts (G := G) (.inp b) m
    simp only [fn_count_of, exs, ex, ev, evv, evs, evi, evo, bind_pure, of_some, sbind_pure, snext_ret, snext_next, startE, lookD, List.map, List.length, List.replicate, List.cons_append, List.nil_append, List.append_nil, List.getElem?_cons_zero, List.getElem?_cons_succ, List.set_cons_zero, List.set_cons_succ, setT, Option.map_some, boolOf, idx_t, idx_l, atI0, atI1, atI2, c_eq_int, c_ne_int, c_lt, c_le, c_gt, c_ge, b_add, b_sub, bl_abs, intOf, hp, Tm.parts, seqOf, lenOk0, mapM_nil, sum0]
    rfl
  | num b =>
    intro m hm
    obtain ⟨m, rfl⟩ : ∃ k, m = k + 2 := ⟨m - 2, by have : (Tm.num b).dp = 1 := rfl; omega⟩
    refine call_pure (g := fn_count_of) rfl rfl fun μ => ?_
    have hp := r_parts (G := G) (.num b) m
    simp only [fn_count_of, exs, ex, ev, evv, evs, evi, evo, bind_pure, of_some, sbind_pure, snext_ret, snext_next, startE, lookD, List.map, List.length, List.replicate, List.cons_append, List.nil_append, List.append_nil, List.getElem?_cons_zero, List.getElem?_cons_succ, List.set_cons_zero, List.set_cons_succ, setT, Option.map_some, boolOf, idx_t, idx_l, atI0, atI1, atI2, c_eq_int, c_ne_int, c_lt, c_le, c_gt, c_ge, b_add, b_sub, bl_abs, intOf, hp, Tm.parts, seqOf, lenOk0, mapM_nil, sum0]
    rfl
  | times q t ih =>
    intro m hm
    have hdp : (Tm.times q t).dp = t.dp + 1 := rfl
    obtain ⟨m, rfl⟩ : ∃ k, m = k + 2 := ⟨m - 2, by omega⟩
    refine call_pure (g := fn_count_of) rfl rfl fun μ => ?_
    have hp := r_parts (G := G) (.times q t) m
    have h1 := ih (m + 1) (by omega)
    have e : (1 : Int) + (t.cnt : Int) = ((Tm.times q t).cnt : Int) := by show _ = ((1 + t.cnt : Nat) : Int); omega
    simp only [fn_count_of, exs, ex, ev, evv, evs, evi, evo, bind_pure, of_some, sbind_pure, snext_ret, snext_next, startE, lookD, List.map, List.length, List.replicate, List.cons_append, List.nil_append, List.append_nil, List.getElem?_cons_zero, List.getElem?_cons_succ, List.set_cons_zero, List.set_cons_succ, setT, Option.map_some, boolOf, idx_t, idx_l, atI0, atI1, atI2, c_eq_int, c_ne_int, c_lt, c_le, c_gt, c_ge, b_add, b_sub, bl_abs, intOf, hp, Tm.parts, seqOf, lenOk1, mapM_nil, mapM_cons, h1, nox_pure, sum1, e]
  | size t ih =>
    intro m hm
    have hdp : (Tm.size t).dp = t.dp + 1 := rfl
    obtain ⟨m, rfl⟩ : ∃ k, m = k + 2 := ⟨m - 2, by omega⟩
    refine call_pure (g := fn_count_of) rfl rfl fun μ => ?_
    have hp := r_parts (G := G) (.size t) m
    have h1 := ih (m + 1) (by omega)
    have e : (1 : Int) + (t.cnt : Int) = ((Tm.size t).cnt : Int) := by show _ = ((1 + t.cnt : Nat) : Int); omega
    simp only [fn_count_of, exs, ex, ev, evv, evs, evi, evo, bind_pure, of_some, sbind_pure, snext_ret, snext_next, startE, lookD, List.map, List.length, List.replicate, List.cons_append, List.nil_append, List.append_nil, List.getElem?_cons_zero, List.getElem?_cons_succ, List.set_cons_zero, List.set_cons_succ, setT, Option.map_some, boolOf, idx_t, idx_l, atI0, atI1, atI2, c_eq_int, c_ne_int, c_lt, c_le, c_gt, c_ge, b_add, b_sub, bl_abs, intOf, hp, Tm.parts, seqOf, lenOk1, mapM_nil, mapM_cons, h1, nox_pure, sum1, e]
  | add s t ih1 ih2 | more s t ih1 ih2 | less s t ih1 ih2 =>
    intro m hm
    have hdp : max s.dp t.dp + 2 ≤ m := hm
    obtain ⟨m, rfl⟩ : ∃ k, m = k + 2 := ⟨m - 2, by omega⟩
    refine call_pure (g := fn_count_of) rfl rfl fun μ => ?_
    have hp := fun w => r_parts (G := G) w m
    have h1 := ih1 (m + 1) (by omega)
    have h2 := ih2 (m + 1) (by omega)
    have e : (1 : Int) + ((s.cnt : Int) + (t.cnt : Int)) = ((1 + (s.cnt + t.cnt) : Nat) : Int) := by omega
    simp only [fn_count_of, exs, ex, ev, evv, evs, evi, evo, bind_pure, of_some, sbind_pure, snext_ret, snext_next, startE, lookD, List.map, List.length, List.replicate, List.cons_append, List.nil_append, List.append_nil, List.getElem?_cons_zero, List.getElem?_cons_succ, List.set_cons_zero, List.set_cons_succ, setT, Option.map_some, boolOf, idx_t, idx_l, atI0, atI1, atI2, c_eq_int, c_ne_int, c_lt, c_le, c_gt, c_ge, b_add, b_sub, bl_abs, intOf, hp, Tm.parts, seqOf, lenOk2, mapM_nil, mapM_cons, h1, h2, nox_pure, sum2, e]
    rfl
theorem r_cuts : ∀ (t : Tm) (m : Nat), t.dp + 1 ≤ m → callN G tb m 12 [.d t.d] = M.pure (.int (t.cuts : Int)) := by
  intro t
  induction t with
  | inp b =>
    intro m hm
    obtain ⟨m, rfl⟩ : ∃ k, m = k + 2 := ⟨m - 2, by have : (Tm.inp b).dp = 1 := rfl; omega⟩
    refine call_pure (g := fn_cuts_of) rfl rfl fun μ => ?_
    have hp := r_parts (G := G) (.inp b) m
    simp only [Tm.d] at hp
    simp only [Tm.d, fn_cuts_of, exs, ex, ev, evv, evs, evi, evo, bind_pure, of_some, sbind_pure, snext_ret, snext_next, startE, lookD, List.map, List.length, List.replicate, List.cons_append, List.nil_append, List.append_nil, List.getElem?_cons_zero, List.getElem?_cons_succ, List.set_cons_zero, List.set_cons_succ, setT, Option.map_some, boolOf, idx_t, idx_l, atI0, atI1, atI2, c_eq_int, c_ne_int, c_lt, c_le, c_gt, c_ge, b_add, b_sub, bl_abs, intOf, inn_of, si_cut3_in, bl_int, hp, Tm.parts, seqOf, lenOk0, mapM_nil, sum0]
    rfl
  | num b =>
    intro m hm
    obtain ⟨m, rfl⟩ : ∃ k, m = k + 2 := ⟨m - 2, by have : (Tm.num b).dp = 1 := rfl; omega⟩
    refine call_pure (g := fn_cuts_of) rfl rfl fun μ => ?_
    have hp := r_parts (G := G) (.num b) m
    simp only [Tm.d] at hp
    simp only [Tm.d, fn_cuts_of, exs, ex, ev, evv, evs, evi, evo, bind_pure, of_some, sbind_pure, snext_ret, snext_next, startE, lookD, List.map, List.length, List.replicate, List.cons_append, List.nil_append, List.append_nil, List.getElem?_cons_zero, List.getElem?_cons_succ, List.set_cons_zero, List.set_cons_succ, setT, Option.map_some, boolOf, idx_t, idx_l, atI0, atI1, atI2, c_eq_int, c_ne_int, c_lt, c_le, c_gt, c_ge, b_add, b_sub, bl_abs, intOf, inn_of, si_cut3_num, bl_int, hp, Tm.parts, seqOf, lenOk0, mapM_nil, sum0]
    rfl
  | times q t ih =>
    intro m hm
    have hdp : (Tm.times q t).dp = t.dp + 1 := rfl
    obtain ⟨m, rfl⟩ : ∃ k, m = k + 2 := ⟨m - 2, by omega⟩
    refine call_pure (g := fn_cuts_of) rfl rfl fun μ => ?_
    have hp := r_parts (G := G) (.times q t) m
    have h1 := ih (m + 1) (by omega)
    simp only [Tm.d] at hp
    simp only [Tm.d, fn_cuts_of, exs, ex, ev, evv, evs, evi, evo, bind_pure, of_some, sbind_pure, snext_ret, snext_next, startE, lookD, List.map, List.length, List.replicate, List.cons_append, List.nil_append, List.append_nil, List.getElem?_cons_zero, List.getElem?_cons_succ, List.set_cons_zero, List.set_cons_succ, setT, Option.map_some, boolOf, idx_t, idx_l, atI0, atI1, atI2, c_eq_int, c_ne_int, c_lt, c_le, c_gt, c_ge, b_add, b_sub, bl_abs, intOf, inn_of, si_cut3_times, bl_int, hp, Tm.parts, seqOf, lenOk1, mapM_nil, mapM_cons, h1, nox_pure, sum1, Bool.false_eq_true, if_false, Int.zero_add]
    rfl
  | size t ih =>
    intro m hm
    have hdp : (Tm.size t).dp = t.dp + 1 := rfl
    obtain ⟨m, rfl⟩ : ∃ k, m = k + 2 := ⟨m - 2, by omega⟩
    refine call_pure (g := fn_cuts_of) rfl rfl fun μ => ?_
    have hp := r_parts (G := G) (.size t) m
    have h1 := ih (m + 1) (by omega)
    have e : (1 : Int) + (t.cuts : Int) = ((1 + t.cuts : Nat) : Int) := by omega
    simp only [Tm.d] at hp
    simp only [Tm.d, fn_cuts_of, exs, ex, ev, evv, evs, evi, evo, bind_pure, of_some, sbind_pure, snext_ret, snext_next, startE, lookD, List.map, List.length, List.replicate, List.cons_append, List.nil_append, List.append_nil, List.getElem?_cons_zero, List.getElem?_cons_succ, List.set_cons_zero, List.set_cons_succ, setT, Option.map_some, boolOf, idx_t, idx_l, atI0, atI1, atI2, c_eq_int, c_ne_int, c_lt, c_le, c_gt, c_ge, b_add, b_sub, bl_abs, intOf, inn_of, si_cut3_size, bl_int, hp, Tm.parts, seqOf, lenOk1, mapM_nil, mapM_cons, h1, nox_pure, sum1, if_true, e]
    rfl
  | add s t ih1 ih2 =>
    intro m hm
    have hdp : max s.dp t.dp + 2 ≤ m := hm
    obtain ⟨m, rfl⟩ : ∃ k, m = k + 2 := ⟨m - 2, by omega⟩
    refine call_pure (g := fn_cuts_of) rfl rfl fun μ => ?_
    have hp := r_parts (G := G) (.add s t) m
    have h1 := ih1 (m + 1) (by omega)
    have h2 := ih2 (m + 1) (by omega)
    have e : ((s.cuts : Int) + (t.cuts : Int)) = ((s.cuts + t.cuts : Nat) : Int) := by omega
    simp only [Tm.d] at hp
    simp only [Tm.d, fn_cuts_of, exs, ex, ev, evv, evs, evi, evo, bind_pure, of_some, sbind_pure, snext_ret, snext_next, startE, lookD, List.map, List.length, List.replicate, List.cons_append, List.nil_append, List.append_nil, List.getElem?_cons_zero, List.getElem?_cons_succ, List.set_cons_zero, List.set_cons_succ, setT, Option.map_some, boolOf, idx_t, idx_l, atI0, atI1, atI2, c_eq_int, c_ne_int, c_lt, c_le, c_gt, c_ge, b_add, b_sub, bl_abs, intOf, inn_of, si_cut3_add, bl_int, hp, Tm.parts, seqOf, lenOk2, mapM_nil, mapM_cons, h1, h2, nox_pure, sum2, Bool.false_eq_true, if_false, Int.zero_add, e]
    rfl
  | more s t ih1 ih2 =>
    intro m hm
    have hdp : max s.dp t.dp + 2 ≤ m := hm
    obtain ⟨m, rfl⟩ : ∃ k, m = k + 2 := ⟨m - 2, by omega⟩
    refine call_pure (g := fn_cuts_of) rfl rfl fun μ => ?_
    have hp := r_parts (G := G) (.more s t) m
    have h1 := ih1 (m + 1) (by omega)
    have h2 := ih2 (m + 1) (by omega)
    have e : (1 : Int) + ((s.cuts : Int) + (t.cuts : Int)) = ((1 + (s.cuts + t.cuts) : Nat) : Int) := by omega
    simp only [Tm.d] at hp
    simp only [Tm.d, fn_cuts_of, exs, ex, ev, evv, evs, evi, evo, bind_pure, of_some, sbind_pure, snext_ret, snext_next, startE, lookD, List.map, List.length, List.replicate, List.cons_append, List.nil_append, List.append_nil, List.getElem?_cons_zero, List.getElem?_cons_succ, List.set_cons_zero, List.set_cons_succ, setT, Option.map_some, boolOf, idx_t, idx_l, atI0, atI1, atI2, c_eq_int, c_ne_int, c_lt, c_le, c_gt, c_ge, b_add, b_sub, bl_abs, intOf, inn_of, si_cut3_more, bl_int, hp, Tm.parts, seqOf, lenOk2, mapM_nil, mapM_cons, h1, h2, nox_pure, sum2, if_true, e]
    rfl
  | less s t ih1 ih2 =>
    intro m hm
    have hdp : max s.dp t.dp + 2 ≤ m := hm
    obtain ⟨m, rfl⟩ : ∃ k, m = k + 2 := ⟨m - 2, by omega⟩
    refine call_pure (g := fn_cuts_of) rfl rfl fun μ => ?_
    have hp := r_parts (G := G) (.less s t) m
    have h1 := ih1 (m + 1) (by omega)
    have h2 := ih2 (m + 1) (by omega)
    have e : (1 : Int) + ((s.cuts : Int) + (t.cuts : Int)) = ((1 + (s.cuts + t.cuts) : Nat) : Int) := by omega
    simp only [Tm.d] at hp
    simp only [Tm.d, fn_cuts_of, exs, ex, ev, evv, evs, evi, evo, bind_pure, of_some, sbind_pure, snext_ret, snext_next, startE, lookD, List.map, List.length, List.replicate, List.cons_append, List.nil_append, List.append_nil, List.getElem?_cons_zero, List.getElem?_cons_succ, List.set_cons_zero, List.set_cons_succ, setT, Option.map_some, boolOf, idx_t, idx_l, atI0, atI1, atI2, c_eq_int, c_ne_int, c_lt, c_le, c_gt, c_ge, b_add, b_sub, bl_abs, intOf, inn_of, si_cut3_less, bl_int, hp, Tm.parts, seqOf, lenOk2, mapM_nil, mapM_cons, h1, h2, nox_pure, sum2, if_true, e]
    rfl
/-- a term for the program -/
structure Good (t : Tm) : Prop where
  q : t.Q
  dp : t.dp ≤ 20
  cnt : t.cnt ≤ 60
  cuts : t.cuts ≤ 4
theorem r_term (hG0 : G 0 = some (.int 60)) (hG1 : G 1 = some (.int 4)) (d : D) (hd : okL d) : (∃ t, d = t.d ∧ Good t ∧ ∀ m, 25 ≤ m → callN G tb m 13 [.d d] = M.pure (.bool true)) ∨ ∀ m, 25 ≤ m → callN G tb m 13 [.d d] = M.pure (.bool false) := by
  have sh : ∀ m, callN G tb (m + 24) 9 [.d d, .d (.int 20)] = M.pure (.bool (shB 20 d)) := fun m => r_shaped 20 d (m + 24) hd (by omega)
  cases q : shB 20 d with
  | false =>
    refine .inr fun m hm => ?_
    obtain ⟨m, rfl⟩ : ∃ k, m = k + 25 := ⟨m - 25, by omega⟩
    refine call_pure (g := fn_is_term) rfl rfl fun μ => ?_
    have h1 := sh m
    rw [q] at h1
    simp only [fn_is_term, exs, ex, ev, evv, evs, evi, evo, bind_pure, of_some, sbind_pure, snext_ret, snext_next, startE, lookD, List.map, List.length, List.replicate, List.cons_append, List.nil_append, List.append_nil, List.getElem?_cons_zero, List.getElem?_cons_succ, List.set_cons_zero, List.set_cons_succ, setT, Option.map_some, boolOf, idx_t, idx_l, atI0, atI1, atI2, c_eq_int, c_ne_int, c_lt, c_le, c_gt, c_ge, b_add, b_sub, bl_abs, intOf, h1]
  | true =>
    obtain ⟨t, rfl, hq, hdp⟩ := sh_tm 20 d q
    have h2 : ∀ m, callN G tb (m + 24) 11 [.d t.d] = M.pure (.int (t.cnt : Int)) := fun m => r_count t (m + 24) (by omega)
    have h3 : ∀ m, callN G tb (m + 24) 12 [.d t.d] = M.pure (.int (t.cuts : Int)) := fun m => r_cuts t (m + 24) (by omega)
    have key : ∀ m, 25 ≤ m → callN G tb m 13 [.d t.d] = M.pure (.bool (decide ((t.cnt : Int) ≤ 60) && decide ((t.cuts : Int) ≤ 4))) := fun m hm => by
      obtain ⟨m, rfl⟩ : ∃ k, m = k + 25 := ⟨m - 25, by omega⟩
      refine call_pure (g := fn_is_term) rfl rfl fun μ => ?_
      have h1 := sh m
      rw [q] at h1
      by_cases c1 : (t.cnt : Int) ≤ 60
      · simp only [fn_is_term, exs, ex, ev, evv, evs, evi, evo, bind_pure, of_some, sbind_pure, snext_ret, snext_next, startE, lookD, List.map, List.length, List.replicate, List.cons_append, List.nil_append, List.append_nil, List.getElem?_cons_zero, List.getElem?_cons_succ, List.set_cons_zero, List.set_cons_succ, setT, Option.map_some, boolOf, idx_t, idx_l, atI0, atI1, atI2, c_eq_int, c_ne_int, c_lt, c_le, c_gt, c_ge, b_add, b_sub, bl_abs, intOf, h1, h2, h3, hG0, hG1, c1, decide_true, Bool.true_and]
      · simp only [fn_is_term, exs, ex, ev, evv, evs, evi, evo, bind_pure, of_some, sbind_pure, snext_ret, snext_next, startE, lookD, List.map, List.length, List.replicate, List.cons_append, List.nil_append, List.append_nil, List.getElem?_cons_zero, List.getElem?_cons_succ, List.set_cons_zero, List.set_cons_succ, setT, Option.map_some, boolOf, idx_t, idx_l, atI0, atI1, atI2, c_eq_int, c_ne_int, c_lt, c_le, c_gt, c_ge, b_add, b_sub, bl_abs, intOf, h1, h2, h3, hG0, hG1, c1, decide_false, Bool.false_and]
    cases q2 : (decide ((t.cnt : Int) ≤ 60) && decide ((t.cuts : Int) ≤ 4)) with
    | false => exact .inr fun m hm => by rw [key m hm, q2]
    | true =>
      simp only [Bool.and_eq_true, decide_eq_true_eq] at q2
      exact .inl ⟨t, rfl, ⟨hq, hdp, by omega, by omega⟩, fun m hm => by rw [key m hm, decide_eq_true q2.1, decide_eq_true q2.2]; rfl⟩
end
end Mp

set_option maxRecDepth 100000
set_option maxHeartbeats 4000000
/-! Pu8: value, its exceptions; the dice. -/
namespace Mp
open PySem L2
def M.raise {α : Type} (c : Nat) : M α := fun μ => some (.exc c μ)
theorem bind_raise {α β : Type} (c : Nat) (k : α → M β) : M.bind (M.raise c) k = M.raise c := rfl
theorem sbind_raise {α : Type} (c : Nat) (μ : Store) (k : α → Store → Option SR) : sbind ((M.raise c : M α) μ) k = some (.exc c μ) := rfl
theorem snext_exc (c : Nat) (μ : Store) (k : En → Store → Option SR) : snext (some (.exc c μ)) k = some (.exc c μ) := rfl
theorem call_exc {G : Nat → Option D} {n f : Nat} {g : Fn} {vs : List Val} {c : Nat} (h : tb f = some (.df g)) (hl : vs.length = g.ar) (hb : ∀ μ, exs G (callN G tb n) g.body (startE g.sl vs) μ = some (.exc c μ)) : callN G tb (n + 1) f vs = M.raise c := by
  funext μ
  rw [call_df h hl, hb μ]
  show some (Res.exc c (μ.take μ.length)) = _
  rw [List.take_length]
  rfl
theorem call_next {G : Nat → Option D} {n f : Nat} {g : Fn} {vs : List Val} (h : tb f = some (.df g)) (hl : vs.length = g.ar) (hb : ∀ μ, ∃ en, exs G (callN G tb n) g.body (startE g.sl vs) μ = some (.next en μ)) : callN G tb (n + 1) f vs = M.pure .none := by
  funext μ
  obtain ⟨en, e⟩ := hb μ
  rw [call_df h hl, e]
  show some (Res.ok PyData.none (μ.take μ.length)) = _
  rw [List.take_length]
  rfl
section
variable {G : Nat → Option D}
theorem r_need_term {d : D} {m : Nat} {b : Bool} (h : callN G tb m 13 [.d d] = M.pure (.bool b)) : callN G tb (m + 1) 14 [.d d] = if b then M.pure .none else M.raise 0 := by
  cases b with
  | true =>
    refine call_next (g := fn_need_term) rfl rfl fun μ => ⟨startE 1 [.d d], ?_⟩
    simp only [fn_need_term, exs, ex, ev, evv, evs, evi, evo, bind_pure, of_some, sbind_pure, snext_ret, snext_next, startE, lookD, List.map, List.length, List.replicate, List.cons_append, List.nil_append, List.append_nil, List.getElem?_cons_zero, List.getElem?_cons_succ, List.set_cons_zero, List.set_cons_succ, setT, Option.map_some, boolOf, idx_t, idx_l, atI0, atI1, atI2, c_eq_int, c_ne_int, c_lt, c_le, c_gt, c_ge, b_add, b_sub, bl_abs, intOf, h, Bool.not_true]
  | false =>
    refine call_exc (g := fn_need_term) rfl rfl fun μ => ?_
    simp only [fn_need_term, exs, ex, ev, evv, evs, evi, evo, bind_pure, of_some, sbind_pure, snext_ret, snext_next, startE, lookD, List.map, List.length, List.replicate, List.cons_append, List.nil_append, List.append_nil, List.getElem?_cons_zero, List.getElem?_cons_succ, List.set_cons_zero, List.set_cons_succ, setT, Option.map_some, boolOf, idx_t, idx_l, atI0, atI1, atI2, c_eq_int, c_ne_int, c_lt, c_le, c_gt, c_ge, b_add, b_sub, bl_abs, intOf, h, Bool.not_false, snext_exc]
theorem r_need_point {d : D} {m : Nat} (hd : okL d) : callN G tb (m + 4) 15 [.d d] = if ptB d then M.pure .none else M.raise 2 := by
  have h := r_point (G := G) (n := m) d hd
  cases q : ptB d with
  | true =>
    rw [q] at h
    refine call_next (g := fn_need_point) rfl rfl fun μ => ⟨startE 1 [.d d], ?_⟩
    simp only [fn_need_point, exs, ex, ev, evv, evs, evi, evo, bind_pure, of_some, sbind_pure, snext_ret, snext_next, startE, lookD, List.map, List.length, List.replicate, List.cons_append, List.nil_append, List.append_nil, List.getElem?_cons_zero, List.getElem?_cons_succ, List.set_cons_zero, List.set_cons_succ, setT, Option.map_some, boolOf, idx_t, idx_l, atI0, atI1, atI2, c_eq_int, c_ne_int, c_lt, c_le, c_gt, c_ge, b_add, b_sub, bl_abs, intOf, h, Bool.not_true]
  | false =>
    rw [q] at h
    refine call_exc (g := fn_need_point) rfl rfl fun μ => ?_
    simp only [fn_need_point, exs, ex, ev, evv, evs, evi, evo, bind_pure, of_some, sbind_pure, snext_ret, snext_next, startE, lookD, List.map, List.length, List.replicate, List.cons_append, List.nil_append, List.append_nil, List.getElem?_cons_zero, List.getElem?_cons_succ, List.set_cons_zero, List.set_cons_succ, setT, Option.map_some, boolOf, idx_t, idx_l, atI0, atI1, atI2, c_eq_int, c_ne_int, c_lt, c_le, c_gt, c_ge, b_add, b_sub, bl_abs, intOf, h, Bool.not_false, snext_exc]
theorem r_value_bad {d p : D} {m : Nat} (h : callN G tb m 13 [.d d] = M.pure (.bool false)) : callN G tb (m + 2) 22 [.d d, .d p] = M.raise 0 := by
  have h1 := r_need_term h
  refine call_exc (g := fn_value) rfl rfl fun μ => ?_
  simp only [fn_value, exs, ex, ev, evv, evs, evi, evo, bind_pure, of_some, sbind_pure, snext_ret, snext_next, startE, lookD, List.map, List.length, List.replicate, List.cons_append, List.nil_append, List.append_nil, List.getElem?_cons_zero, List.getElem?_cons_succ, List.set_cons_zero, List.set_cons_succ, setT, Option.map_some, boolOf, idx_t, idx_l, atI0, atI1, atI2, c_eq_int, c_ne_int, c_lt, c_le, c_gt, c_ge, b_add, b_sub, bl_abs, intOf, h1, Bool.false_eq_true, if_false, sbind_raise, snext_exc]
theorem r_value_pt {d p : D} {m : Nat} (h : callN G tb (m + 3) 13 [.d d] = M.pure (.bool true)) (hp : okL p) (hb : ptB p = false) : callN G tb (m + 5) 22 [.d d, .d p] = M.raise 2 := by
  have h1 := r_need_term h
  have h2 := r_need_point (G := G) (m := m) hp
  rw [hb] at h2
  refine call_exc (g := fn_value) rfl rfl fun μ => ?_
  simp only [fn_value, exs, ex, ev, evv, evs, evi, evo, bind_pure, of_some, sbind_pure, snext_ret, snext_next, startE, lookD, List.map, List.length, List.replicate, List.cons_append, List.nil_append, List.append_nil, List.getElem?_cons_zero, List.getElem?_cons_succ, List.set_cons_zero, List.set_cons_succ, setT, Option.map_some, boolOf, idx_t, idx_l, atI0, atI1, atI2, c_eq_int, c_ne_int, c_lt, c_le, c_gt, c_ge, b_add, b_sub, bl_abs, intOf, h1, h2, if_true, Bool.false_eq_true, if_false, sbind_raise, snext_exc]
theorem r_value {t : Tm} {x y : Rat} {u m : Nat} (hG2 : G 2 = some (f3 0 0 0)) (g : Good t) (h : callN G tb (m + 28) 13 [.d t.d] = M.pure (.bool true)) (hx : Sm u x) (hy : Sm u y) (hu : u ≤ 130) (hb : ptB (pt x y) = true) : callN G tb (m + 30) 22 [.d t.d, .d (pt x y)] = M.pure (fr (t.out x y)) := by
  have h1 := r_need_term h
  have h2 := r_need_point (G := G) (m := m + 25) (d := pt x y) rfl
  rw [hb] at h2
  have h3 := r_value_of (G := G) hG2 hx hy hu t (m + 29) g.q.sm g.cnt (by have := g.dp; omega)
  refine call_pure (g := fn_value) rfl rfl fun μ => ?_
  simp only [fn_value, exs, ex, ev, evv, evs, evi, evo, bind_pure, of_some, sbind_pure, snext_ret, snext_next, startE, lookD, List.map, List.length, List.replicate, List.cons_append, List.nil_append, List.append_nil, List.getElem?_cons_zero, List.getElem?_cons_succ, List.set_cons_zero, List.set_cons_succ, setT, Option.map_some, boolOf, idx_t, idx_l, atI0, atI1, atI2, c_eq_int, c_ne_int, c_lt, c_le, c_gt, c_ge, b_add, b_sub, bl_abs, intOf, h1, h2, h3, if_true]
end
/-! ### the dice -/
def Dice (b : Nat) (μ : Store) : Prop := ∃ (c : Int) (j : Nat), μ = [.lst [.int c, .int (j : Int)]] ∧ c.natAbs < 2 ^ 1048577 ∧ j ≤ b
theorem Dice.mono {b b' : Nat} {μ : Store} (h : Dice b μ) (hb : b ≤ b') : Dice b' μ := by
  obtain ⟨c, j, e, h1, h2⟩ := h
  exact ⟨c, j, e, h1, by omega⟩
/-- a run that rolls -/
def Rl (b : Nat) (P : D → Prop) (r : Option (Res D)) : Prop := ∃ d μ', r = some (.ok d μ') ∧ Dice b μ' ∧ P d
section
variable {G : Nat → Option D} {n : Nat}
theorem idxC_run (en : En) (e : ME) (call : Nat → List Val → M D) {i k : Nat} {j : Int} {xs : List D} {μ : Store} {d : D} (h1 : lookC en i = some k) (h2 : ev G call e en = M.pure (.int j)) (h3 : cellL μ k = some xs) (h4 : atI xs j = some d) : ev G call (.idxC i e) en μ = some (.ok d μ) := by
  show M.bind (M.of (lookC en i)) _ μ = _
  rw [h1, of_some, bind_pure, h2, bind_pure]
  simp only [h3, h4, of_some]
  rfl
theorem fmod_nn (i : Int) {j : Int} (hj : 0 < j) : i.fmod j = i % j := Int.fmod_eq_emod_of_nonneg i (by omega)
theorem fdiv_nn (i : Int) {j : Int} (hj : 0 < j) : i.fdiv j = i / j := Int.fdiv_eq_ediv_of_nonneg i (by omega)
theorem lt_pow {x : Int} {a b : Nat} (h : x.natAbs < 2 ^ a) (hab : a ≤ b) : x.natAbs < 2 ^ b := Nat.lt_of_lt_of_le h (Nat.pow_le_pow_right (by decide) hab)
theorem r_drawn (c : Int) (j : Nat) (hc : c.natAbs < 2 ^ 1048577) (hj : j < 2 ^ 63) : ∃ r : Nat, callN G tb (n + 1) 24 [.d (.int c), .d (.int (j : Int))] = M.pure (.int (r : Int)) := by
  have P1 : (0 : Int) < 340282366920938463463374607431768211507 := by decide
  have P2 : (0 : Int) < 340282366920938463463374607431768211297 := by decide
  have P3 : (0 : Int) < 18446744073709551557 := by decide
  have m1 : mulOk c 6364136223846793005 = true := mulOk_of hc (by decide : (6364136223846793005 : Int).natAbs < 2 ^ 64) (by decide)
  have m2 : mulOk ((j : Int) + 1) 1442695040888963407 = true := mulOk_of (a := 64) (by show ((j : Int) + 1).natAbs < 18446744073709551616; have : j < 9223372036854775808 := hj; omega) (by decide : (1442695040888963407 : Int).natAbs < 2 ^ 64) (by decide)
  have em : ∀ (x : Int), 0 ≤ x % 340282366920938463463374607431768211507 ∧ x % 340282366920938463463374607431768211507 < 340282366920938463463374607431768211507 := fun x => ⟨Int.emod_nonneg _ (by decide), Int.emod_lt_of_pos _ P1⟩
  generalize hM : (c * 6364136223846793005 + ((j : Int) + 1) * 1442695040888963407) = X
  have a1 := em X
  generalize hA : X % 340282366920938463463374607431768211507 = A at a1
  have m3 : mulOk A A = true := mulOk_of (a := 129) (b := 129) (by show A.natAbs < 680564733841876926926749214863536422912; omega) (by show A.natAbs < 680564733841876926926749214863536422912; omega) (by decide)
  have a2 : 0 ≤ A * A % 340282366920938463463374607431768211297 ∧ A * A % 340282366920938463463374607431768211297 < 340282366920938463463374607431768211297 := ⟨Int.emod_nonneg _ (by decide), Int.emod_lt_of_pos _ P2⟩
  generalize hB : A * A % 340282366920938463463374607431768211297 = B at a2
  have a3 : 0 ≤ B % 18446744073709551557 ∧ B % 18446744073709551557 < 18446744073709551557 := ⟨Int.emod_nonneg _ (by decide), Int.emod_lt_of_pos _ P3⟩
  have a4 : 0 ≤ B / 18446744073709551557 ∧ B / 18446744073709551557 ≤ B := by omega
  have d1 : divOk 18446744073709551557 = true := by decide +kernel
  generalize hC : B % 18446744073709551557 = C at a3
  generalize hE : B / 18446744073709551557 = E at a4
  have m4 : mulOk (C + 1) (E + 1) = true := mulOk_of (a := 65) (b := 129) (by show (C + 1).natAbs < 36893488147419103232; omega) (by show (E + 1).natAbs < 680564733841876926926749214863536422912; omega) (by decide)
  have m5 : mulOk ((C + 1) * (E + 1)) B = true := mulOk_of (a := 65 + 129) (b := 129) (by rw [Int.natAbs_mul, Nat.pow_add]; exact Nat.mul_lt_mul'' (by show (C + 1).natAbs < 36893488147419103232; omega) (by show (E + 1).natAbs < 680564733841876926926749214863536422912; omega)) (by show B.natAbs < 680564733841876926926749214863536422912; omega) (by decide)
  have a5 := em ((C + 1) * (E + 1) * B)
  refine ⟨((C + 1) * (E + 1) * B % 340282366920938463463374607431768211507).toNat, call_pure (g := fn__law_drawn) rfl rfl fun μ => ?_⟩
  have e5 : (((((C + 1) * (E + 1) * B % 340282366920938463463374607431768211507).toNat : Nat)) : Int) = (C + 1) * (E + 1) * B % 340282366920938463463374607431768211507 := by omega
  rw [e5]
  have q1 : (340282366920938463463374607431768211507 : Int) ≠ 0 := by decide
  have q2 : (340282366920938463463374607431768211297 : Int) ≠ 0 := by decide
  have q3 : (18446744073709551557 : Int) ≠ 0 := by decide
  simp only [fn__law_drawn, exs, ex, ev, evv, evs, evi, evo, bind_pure, of_some, sbind_pure, snext_ret, snext_next, startE, lookD, List.map, List.length, List.replicate, List.cons_append, List.nil_append, List.append_nil, List.getElem?_cons_zero, List.getElem?_cons_succ, List.set_cons_zero, List.set_cons_succ, setT, Option.map_some, boolOf, idx_t, idx_l, atI0, atI1, atI2, c_eq_int, c_ne_int, c_lt, c_le, c_gt, c_ge, b_add, b_sub, bl_abs, intOf, b_mul m1, b_mul m2, hM, b_mod q1, b_mod q2, b_mod q3, fmod_nn _ P1, fmod_nn _ P2, fmod_nn _ P3, hA, b_mul m3, hB, hC, b_fdiv d1, fdiv_nn _ P3, hE, b_mul m4, b_mul m5]
end
end Mp

set_option maxRecDepth 100000
set_option maxHeartbeats 4000000
/-! Pu9: rolls. -/
namespace Mp
open PySem L2
theorem ix20 : ixN (0 + 1 + 1) 0 = some 0 := rfl
theorem ix21 : ixN (0 + 1 + 1) 1 = some 1 := rfl
theorem p18 : bop .pow (.int 10) (.int 18) = some (.int 1000000000000000000) := by
  show (if powOk 10 18 = true then some (PyData.int ((10 : Int) ^ (18 : Int).toNat)) else none) = _
  rw [if_pos (by decide +kernel)]
  rfl
section
variable {G : Nat → Option D} {n : Nat}
theorem r_roll {b : Nat} {μ : Store} (h : Dice b μ) (hb : b < 2 ^ 60) (many : Nat) (hm : 0 < many) (hs : many < 2 ^ 64) : Rl (b + 1) (fun d => ∃ r : Nat, d = .int (r : Int) ∧ r < many) (callN G tb (n + 2) 25 [.c 0, .d (.int (many : Int))] μ) := by
  obtain ⟨c, j, rfl, hc, hj⟩ := h
  have hmn : (many : Int) ≠ 0 := by omega
  have hmp : (0 : Int) < (many : Int) := by omega
  have dm : divOk (many : Int) = true := divOk_of hmn (Nat.lt_of_lt_of_le (show ((many : Int)).natAbs < 2 ^ 64 by rw [Int.natAbs_natCast]; exact hs) (Nat.pow_le_pow_right (by decide) (by decide)))
  have d8 : divOk 8 = true := by decide +kernel
  rw [call_df (g := fn__law_roll) rfl rfl]
  by_cases hbig : (1000000000000000000 : Int) ≤ c
  · have e1 : exs G (callN G tb (n + 1)) fn__law_roll.body (startE fn__law_roll.sl [.c 0, .d (.int (many : Int))]) [.lst [.int c, .int (j : Int)]] = some (.ret (.int (c % many)) [.lst [.int (c / many), .int (j : Int)]]) := by
      simp only [fn__law_roll, exs, ex, ev, evv, evs, evi, evo, bind_pure, of_some, sbind_pure, snext_ret, snext_next, startE, lookD, List.map, List.length, List.replicate, List.cons_append, List.nil_append, List.append_nil, List.getElem?_cons_zero, List.getElem?_cons_succ, List.set_cons_zero, List.set_cons_succ, setT, Option.map_some, boolOf, idx_t, idx_l, atI0, atI1, atI2, c_eq_int, c_ne_int, c_lt, c_le, c_gt, c_ge, b_add, b_sub, bl_abs, intOf, lookC, M.bind, M.pure, M.of, sbind, snext, cellL, ix20, ix21, p18, hbig, decide_true, b_mod hmn, b_fdiv dm, fmod_nn _ hmp, fdiv_nn _ hmp]
    rw [e1]
    have h0 := Int.emod_nonneg c hmn
    have h1 := Int.emod_lt_of_pos c hmp
    refine ⟨.int (c % many), [.lst [.int (c / many), .int (j : Int)]], rfl, ⟨_, j, rfl, ?_, by omega⟩, (c % many).toNat, by congr 1; omega, by omega⟩
    have h2 : 0 ≤ c / many := Int.ediv_nonneg (by omega) (by omega)
    have h3 : c / many ≤ c := Int.ediv_le_self _ (by omega)
    omega
  · have hj2 : j + 1 < 2 ^ 63 := by have : (2 : Nat) ^ 60 + 1 < 2 ^ 63 := by decide
                                    omega
    obtain ⟨r, hr⟩ := r_drawn (G := G) (n := n) c (j + 1) hc hj2
    have ej : (j : Int) + 1 = ((j + 1 : Nat) : Int) := by omega
    have P8 : (0 : Int) < 8 := by decide
    have e1 : exs G (callN G tb (n + 1)) fn__law_roll.body (startE fn__law_roll.sl [.c 0, .d (.int (many : Int))]) [.lst [.int c, .int (j : Int)]] = some (.ret (.int ((r : Int) / 8 % many)) [.lst [.int c, .int ((j + 1 : Nat) : Int)]]) := by
      simp only [fn__law_roll, exs, ex, ev, evv, evs, evi, evo, bind_pure, of_some, sbind_pure, snext_ret, snext_next, startE, lookD, List.map, List.length, List.replicate, List.cons_append, List.nil_append, List.append_nil, List.getElem?_cons_zero, List.getElem?_cons_succ, List.set_cons_zero, List.set_cons_succ, setT, Option.map_some, boolOf, idx_t, idx_l, atI0, atI1, atI2, c_eq_int, c_ne_int, c_lt, c_le, c_gt, c_ge, b_add, b_sub, bl_abs, intOf, lookC, M.bind, M.pure, M.of, sbind, snext, cellL, ix20, ix21, p18, hbig, decide_false, ej, hr, b_mod hmn, b_fdiv d8, fmod_nn _ hmp, fdiv_nn _ P8]
    rw [e1]
    have h0 := Int.emod_nonneg ((r : Int) / 8) hmn
    have h1 := Int.emod_lt_of_pos ((r : Int) / 8) hmp
    exact ⟨.int ((r : Int) / 8 % many), [.lst [.int c, .int ((j + 1 : Nat) : Int)]], rfl, ⟨c, j + 1, rfl, hc, by omega⟩, ((r : Int) / 8 % many).toNat, by first | (congr 1; done) | (congr 1; omega), by omega⟩
end
end Mp

set_option maxRecDepth 100000
set_option maxHeartbeats 4000000
/-! Pu10: drawn fractions, terms, points. -/
namespace Mp
open PySem L2
theorem Rl.of {b : Nat} {P : D → Prop} {r : Option (Res D)} (h : Rl b P r) : ∃ d μ', r = some (.ok d μ') ∧ Dice b μ' ∧ P d := h
theorem Dice.take {b : Nat} {μ μ' : Store} (h : Dice b μ) (h' : Dice b μ') {b' : Nat} : μ'.take μ.length = μ' := by
  obtain ⟨c, j, rfl, _⟩ := h
  obtain ⟨c', j', rfl, _⟩ := h'
  rfl
theorem Dice.take' {b b' : Nat} {μ μ' : Store} (h : Dice b μ) (h' : Dice b' μ') : μ'.take μ.length = μ' := by
  obtain ⟨c, j, rfl, _⟩ := h
  obtain ⟨c', j', rfl, _⟩ := h'
  rfl
theorem Rl.call {G : Nat → Option D} {n f b b' : Nat} {g : Fn} {vs : List Val} {μ μ' : Store} {d : D} {P : D → Prop} (hd : Dice b μ) (h : tb f = some (.df g)) (hl : vs.length = g.ar) (hb : exs G (callN G tb n) g.body (startE g.sl vs) μ = some (.ret d μ')) (hd' : Dice b' μ') (hp : P d) : Rl b' P (callN G tb (n + 1) f vs μ) := by
  refine ⟨d, μ', ?_, hd', hp⟩
  rw [call_df h hl, hb]
  show some (Res.ok d (μ'.take μ.length)) = _
  rw [hd.take' hd']
section
variable {G : Nat → Option D} {n : Nat}
theorem pick5 (r : Nat) (h : r < 5) : ∃ bo : Nat, atI [PyData.int 1, .int 1, .int 1, .int 2, .int 3] (r : Int) = some (.int (bo : Int)) ∧ 1 ≤ bo ∧ bo ≤ 3 := by
  have : r = 0 ∨ r = 1 ∨ r = 2 ∨ r = 3 ∨ r = 4 := by omega
  rcases this with e | e | e | e | e <;> subst e
  · exact ⟨1, rfl, by omega, by omega⟩
  · exact ⟨1, rfl, by omega, by omega⟩
  · exact ⟨1, rfl, by omega, by omega⟩
  · exact ⟨2, rfl, by omega, by omega⟩
  · exact ⟨3, rfl, by omega, by omega⟩
theorem r_lfraction {b : Nat} {μ : Store} (h : Dice b μ) (hb : b < 2 ^ 59) (most : Nat) (hm : most ≤ 90) : Rl (b + 2) (fun d => ∃ q : Rat, d = fr q ∧ q.num.natAbs ≤ most ∧ q.den ≤ 3) (callN G tb (n + 3) 34 [.c 0, .d (.int (most : Int))] μ) := by
  obtain ⟨d1, μ1, h1, D1, r1, rfl, l1⟩ := r_roll (G := G) (n := n) h (by omega) 5 (by decide) (by decide)
  obtain ⟨d2, μ2, h2, D2, r2, rfl, l2⟩ := r_roll (G := G) (n := n) D1 (by omega) (2 * most + 1) (by omega) (by omega)
  obtain ⟨bo, hbo, b1, b3⟩ := pick5 r1 l1
  have m1 : mulOk 2 (most : Int) = true := mulOk_of (a := 2) (b := 7) (by decide) (by show ((most : Int)).natAbs < 128; omega) (by decide)
  have e1 : (2 : Int) * (most : Int) + 1 = ((2 * most + 1 : Nat) : Int) := by omega
  have hlow := r_low (G := G) (n := n + 1) ((r2 : Int) - (most : Int)) bo (by omega) (Nat.lt_of_le_of_lt (show bo ≤ 3 from b3) (Nat.lt_of_lt_of_le (by decide : 3 < 2 ^ 2) (Nat.pow_le_pow_right (by decide) (by decide))))
  have q1 := norm_num_le ((r2 : Int) - (most : Int)) bo (by omega)
  have q2 := norm_den_le ((r2 : Int) - (most : Int)) bo (by omega)
  refine Rl.call (b' := b + 2) h (g := fn__law_fraction) rfl rfl (d := fr (Rat.normalize ((r2 : Int) - (most : Int)) bo (by omega))) (μ' := μ2) ?_ D2 ⟨_, rfl, by omega, by omega⟩
  have h1' : callN G tb (n + 2) 25 [.c 0, .d (.int 5)] μ = some (.ok (.int (r1 : Int)) μ1) := h1
  simp only [fn__law_fraction, exs, ex, ev, evv, evs, evi, evo, bind_pure, of_some, sbind_pure, snext_ret, snext_next, startE, lookD, List.map, List.length, List.replicate, List.cons_append, List.nil_append, List.append_nil, List.getElem?_cons_zero, List.getElem?_cons_succ, List.set_cons_zero, List.set_cons_succ, setT, Option.map_some, boolOf, idx_t, idx_l, atI0, atI1, atI2, c_eq_int, c_ne_int, c_lt, c_le, c_gt, c_ge, b_add, b_sub, bl_abs, intOf, lookC, M.bind, M.pure, M.of, sbind, snext, h1', hbo, b_mul m1, e1, h2, hlow]
end
end Mp

set_option maxRecDepth 100000
set_option maxHeartbeats 4000000
/-! Pu11: drawn terms. -/
namespace Mp
open PySem L2
theorem pick4 (t0 t1 t2 t3 : Tm) (r : Nat) (h : r < 4) : ∃ t : Tm, atI [t0.d, t1.d, t2.d, t3.d] (r : Int) = some t.d := by
  have : r = 0 ∨ r = 1 ∨ r = 2 ∨ r = 3 := by omega
  rcases this with e | e | e | e <;> subst e
  · exact ⟨t0, rfl⟩
  · exact ⟨t1, rfl⟩
  · exact ⟨t2, rfl⟩
  · exact ⟨t3, rfl⟩
section
variable {G : Nat → Option D} {n : Nat}
theorem r_lstraight {b : Nat} {μ : Store} (h : Dice b μ) (hb : b < 2 ^ 58) (both : Bool) : Rl (b + 10) (fun d => ∃ t : Tm, d = t.d) (callN G tb (n + 4) 35 [.c 0, .d (.bool both)] μ) := by
  obtain ⟨d1, μ1, h1, D1, q1, rfl, _⟩ := r_lfraction (G := G) (n := n) h (by omega) 2 (by decide)
  obtain ⟨d2, μ2, h2, D2, q2, rfl, _⟩ := r_lfraction (G := G) (n := n) D1 (by omega) 4 (by decide)
  have h1' : callN G tb (n + 3) 34 [.c 0, .d (.int 2)] μ = some (.ok (fr q1) μ1) := h1
  have h2' : callN G tb (n + 3) 34 [.c 0, .d (.int 4)] μ1 = some (.ok (fr q2) μ2) := h2
  have fin : ∀ {b3 : Nat} {μ3 : Store} (t : Tm), Dice b3 μ3 → b3 < 2 ^ 59 - 10 → ∃ t' q3 μ4 r μ5, callN G tb (n + 3) 34 [.c 0, .d (.int 3)] μ3 = some (.ok (fr q3) μ4) ∧ callN G tb (n + 3) 25 [.c 0, .d (.int 4)] μ4 = some (.ok (.int ((r : Nat) : Int)) μ5) ∧ atI [t.d, (Tm.inp false).d, t.d, (Tm.num q3).d] (r : Int) = some (Tm.d t') ∧ Dice (b3 + 3) μ5 := fun {b3 μ3} t D hb3 => by
    obtain ⟨d4, μ4, h4, D4, q3, rfl, _⟩ := r_lfraction (G := G) (n := n) D (by omega) 3 (by decide)
    obtain ⟨d5, μ5, h5, D5, r, rfl, l5⟩ := r_roll (G := G) (n := n + 1) D4 (by omega) 4 (by decide) (by decide)
    obtain ⟨t', ht'⟩ := pick4 t (.inp false) t (.num q3) r l5
    exact ⟨t', q3, μ4, r, μ5, h4, h5, ht', D5⟩
  have e0 : PyData.tuple [.str (Str.ofString "in"), .int 0] = (Tm.inp false).d := rfl
  have e1 : PyData.tuple [.str (Str.ofString "in"), .int 1] = (Tm.inp true).d := rfl
  have e2 : ∀ q, PyData.tuple [.str (Str.ofString "num"), fr q] = (Tm.num q).d := fun _ => rfl
  have e3 : ∀ q (t : Tm), PyData.tuple [.str (Str.ofString "times"), fr q, t.d] = (Tm.times q t).d := fun _ _ => rfl
  have e4 : ∀ (s t : Tm), PyData.tuple [.str (Str.ofString "add"), s.d, t.d] = (Tm.add s t).d := fun _ _ => rfl
  cases both with
  | false =>
    obtain ⟨t', q3, μ4, r, μ5, f1, f2, f3, f4⟩ := fin (.add (.times q1 (.inp false)) (.num q2)) D2 (by omega)
    refine Rl.call (b' := b + 10) h (g := fn__law_straight) rfl rfl (d := t'.d) (μ' := μ5) ?_ (f4.mono (by omega)) ⟨t', rfl⟩
    simp only [fn__law_straight, exs, ex, ev, evv, evs, evi, evo, bind_pure, of_some, sbind_pure, snext_ret, snext_next, startE, lookD, List.map, List.length, List.replicate, List.cons_append, List.nil_append, List.append_nil, List.getElem?_cons_zero, List.getElem?_cons_succ, List.set_cons_zero, List.set_cons_succ, setT, Option.map_some, boolOf, idx_t, idx_l, atI0, atI1, atI2, c_eq_int, c_ne_int, c_lt, c_le, c_gt, c_ge, b_add, b_sub, bl_abs, intOf, lookC, M.bind, M.pure, M.of, sbind, snext, h1', h2', e0, e2, e3, e4, f1, f2, f3]
  | true =>
    obtain ⟨d6, μ6, h6, D6, r6, rfl, l6⟩ := r_roll (G := G) (n := n + 1) D2 (by omega) 4 (by decide) (by decide)
    have h6' : callN G tb (n + 3) 25 [.c 0, .d (.int 4)] μ2 = some (.ok (.int (r6 : Int)) μ6) := h6
    by_cases hz : (0 : Int) < (r6 : Int)
    · obtain ⟨d7, μ7, h7, D7, q7, rfl, _⟩ := r_lfraction (G := G) (n := n) D6 (by omega) 2 (by decide)
      have h7' : callN G tb (n + 3) 34 [.c 0, .d (.int 2)] μ6 = some (.ok (fr q7) μ7) := h7
      obtain ⟨t', q3, μ4, r, μ5, f1, f2, f3, f4⟩ := fin (.add (.add (.times q1 (.inp false)) (.num q2)) (.times q7 (.inp true))) D7 (by omega)
      refine Rl.call (b' := b + 10) h (g := fn__law_straight) rfl rfl (d := t'.d) (μ' := μ5) ?_ (f4.mono (by omega)) ⟨t', rfl⟩
      simp only [fn__law_straight, exs, ex, ev, evv, evs, evi, evo, bind_pure, of_some, sbind_pure, snext_ret, snext_next, startE, lookD, List.map, List.length, List.replicate, List.cons_append, List.nil_append, List.append_nil, List.getElem?_cons_zero, List.getElem?_cons_succ, List.set_cons_zero, List.set_cons_succ, setT, Option.map_some, boolOf, idx_t, idx_l, atI0, atI1, atI2, c_eq_int, c_ne_int, c_lt, c_le, c_gt, c_ge, b_add, b_sub, bl_abs, intOf, lookC, M.bind, M.pure, M.of, sbind, snext, h1', h2', h6', h7', hz, decide_true, e0, e1, e2, e3, e4, f1, f2, f3]
    · obtain ⟨t', q3, μ4, r, μ5, f1, f2, f3, f4⟩ := fin (.add (.times q1 (.inp false)) (.num q2)) D6 (by omega)
      refine Rl.call (b' := b + 10) h (g := fn__law_straight) rfl rfl (d := t'.d) (μ' := μ5) ?_ (f4.mono (by omega)) ⟨t', rfl⟩
      simp only [fn__law_straight, exs, ex, ev, evv, evs, evi, evo, bind_pure, of_some, sbind_pure, snext_ret, snext_next, startE, lookD, List.map, List.length, List.replicate, List.cons_append, List.nil_append, List.append_nil, List.getElem?_cons_zero, List.getElem?_cons_succ, List.set_cons_zero, List.set_cons_succ, setT, Option.map_some, boolOf, idx_t, idx_l, atI0, atI1, atI2, c_eq_int, c_ne_int, c_lt, c_le, c_gt, c_ge, b_add, b_sub, bl_abs, intOf, lookC, M.bind, M.pure, M.of, sbind, snext, h1', h2', h6', hz, decide_false, e0, e1, e2, e3, e4, f1, f2, f3]
end
end Mp

set_option maxRecDepth 100000
set_option maxHeartbeats 4000000
/-! Pu12: made terms, drawn points. -/
namespace Mp
open PySem L2
def kinds7 : List D := [.str (Str.ofString "more"), .str (Str.ofString "less"), .str (Str.ofString "size"), .str (Str.ofString "add"), .str (Str.ofString "times"), .str (Str.ofString "more"), .str (Str.ofString "less")]
inductive Kd : Str → Prop
  | more : Kd (Str.ofString "more")
  | less : Kd (Str.ofString "less")
  | size : Kd (Str.ofString "size")
  | add : Kd (Str.ofString "add")
  | times : Kd (Str.ofString "times")
theorem pick7 (r : Nat) (h : r < 7) : ∃ k : Str, atI kinds7 (r : Int) = some (.str k) ∧ Kd k := by
  have : r = 0 ∨ r = 1 ∨ r = 2 ∨ r = 3 ∨ r = 4 ∨ r = 5 ∨ r = 6 := by omega
  rcases this with e | e | e | e | e | e | e <;> subst e
  · exact ⟨_, rfl, .more⟩
  · exact ⟨_, rfl, .less⟩
  · exact ⟨_, rfl, .size⟩
  · exact ⟨_, rfl, .add⟩
  · exact ⟨_, rfl, .times⟩
  · exact ⟨_, rfl, .more⟩
  · exact ⟨_, rfl, .less⟩
section
variable {G : Nat → Option D}
theorem r_made (both : Bool) : ∀ (c b n : Nat) (μ : Store), c ≤ 20 → Dice b μ → b < 2 ^ 57 - 12 * (2 * c + 1) → Rl (b + 12 * (2 * c + 1)) (fun d => ∃ t : Tm, d = t.d) (callN G tb (n + c + 5) 36 [.c 0, .d (.int (c : Int)), .d (.bool both)] μ) := by
  intro c
  induction c using Nat.strongRecOn with
  | _ c ih =>
    intro b n μ hc h hb
    by_cases h0 : c = 0
    · subst h0
      obtain ⟨d1, μ1, h1, D1, t, rfl⟩ := r_lstraight (G := G) (n := n) h (by omega) both
      refine Rl.call (b' := b + 12 * (2 * 0 + 1)) h (g := fn__law_made) rfl rfl (d := t.d) (μ' := μ1) ?_ (D1.mono (by omega)) ⟨t, rfl⟩
      have e : (((0 : Nat) : Int) == 0) = true := rfl
      have h1' : callN G tb (n + 0 + 4) 35 [.c 0, .d (.bool both)] μ = some (.ok t.d μ1) := h1
      simp only [fn__law_made, exs, ex, ev, evv, evs, evi, evo, bind_pure, of_some, sbind_pure, snext_ret, snext_next, startE, lookD, List.map, List.length, List.replicate, List.cons_append, List.nil_append, List.append_nil, List.getElem?_cons_zero, List.getElem?_cons_succ, List.set_cons_zero, List.set_cons_succ, setT, Option.map_some, boolOf, idx_t, idx_l, atI0, atI1, atI2, c_eq_int, c_ne_int, c_lt, c_le, c_gt, c_ge, b_add, b_sub, bl_abs, intOf, lookC, M.bind, M.pure, M.of, sbind, snext, e, h1']
    · have e0 : ((c : Int) == 0) = false := by rw [beq_eq_false_iff_ne]; omega
      have e1 : (c : Int) - 1 = ((c - 1 : Nat) : Int) := by omega
      have hn : n + c + 4 = n + (c - 1) + 5 := by omega
      obtain ⟨d1, μ1, h1, D1, r, rfl, l1⟩ := r_roll (G := G) (n := n + c + 2) h (by omega) 7 (by decide) (by decide)
      obtain ⟨k, hk, kd⟩ := pick7 r l1
      have h1' : callN G tb (n + c + 4) 25 [.c 0, .d (.int 7)] μ = some (.ok (.int (r : Int)) μ1) := h1
      have hk' : atI [PyData.str (Str.ofString "more"), .str (Str.ofString "less"), .str (Str.ofString "size"), .str (Str.ofString "add"), .str (Str.ofString "times"), .str (Str.ofString "more"), .str (Str.ofString "less")] (r : Int) = some (.str k) := hk
      have two : ∃ s t μ3 few μ2, callN G tb (n + c + 4) 25 [.c 0, .d (.int (c : Int))] μ1 = some (.ok (.int (few : Int)) μ2) ∧ ∃ μ4, callN G tb (n + c + 4) 36 [.c 0, .d (.int (few : Int)), .d (.bool both)] μ2 = some (.ok (Tm.d s) μ3) ∧ callN G tb (n + c + 4) 36 [.c 0, .d (.int ((c : Int) - 1 - few)), .d (.bool both)] μ3 = some (.ok (Tm.d t) μ4) ∧ Dice (b + 12 * (2 * c + 1)) μ4 := by
        obtain ⟨d2, μ2, h2, D2, few, rfl, l2⟩ := r_roll (G := G) (n := n + c + 2) D1 (by omega) c (by omega) (by omega)
        obtain ⟨d3, μ3, h3, D3, s, rfl⟩ := ih few (by omega) (b + 1 + 1) (n + (c - 1 - few)) μ2 (by omega) D2 (by omega)
        obtain ⟨d4, μ4, h4, D4, t, rfl⟩ := ih (c - 1 - few) (by omega) (b + 1 + 1 + 12 * (2 * few + 1)) (n + few) μ3 (by omega) D3 (by omega)
        have f3 : n + (c - 1 - few) + few + 5 = n + c + 4 := by omega
        have f4 : n + few + (c - 1 - few) + 5 = n + c + 4 := by omega
        have f5 : (c : Int) - 1 - (few : Int) = ((c - 1 - few : Nat) : Int) := by omega
        rw [f3] at h3
        rw [f4] at h4
        refine ⟨s, t, μ3, (few : Int), μ2, h2, μ4, h3, ?_, D4.mono (by omega)⟩
        rw [f5]
        exact h4
      cases kd with
      | size =>
        obtain ⟨d2, μ2, h2, D2, t, rfl⟩ := ih (c - 1) (by omega) (b + 1) n μ1 (by omega) D1 (by omega)
        rw [← hn] at h2
        refine Rl.call (b' := b + 12 * (2 * c + 1)) h (g := fn__law_made) rfl rfl (d := (Tm.size t).d) (μ' := μ2) ?_ (D2.mono (by omega)) ⟨_, rfl⟩
        simp only [fn__law_made, exs, ex, ev, evv, evs, evi, evo, bind_pure, of_some, sbind_pure, snext_ret, snext_next, startE, lookD, List.map, List.length, List.replicate, List.cons_append, List.nil_append, List.append_nil, List.getElem?_cons_zero, List.getElem?_cons_succ, List.set_cons_zero, List.set_cons_succ, setT, Option.map_some, boolOf, idx_t, idx_l, atI0, atI1, atI2, c_eq_int, c_ne_int, c_lt, c_le, c_gt, c_ge, b_add, b_sub, bl_abs, intOf, lookC, M.bind, M.pure, M.of, sbind, snext, e0, h1', hk', se_size_size, e1, h2]
        rfl
      | times =>
        obtain ⟨d5, μ5, h5, D5, q, rfl, _⟩ := r_lfraction (G := G) (n := n + c + 1) D1 (by omega) 2 (by decide)
        have h5' : callN G tb (n + c + 4) 34 [.c 0, .d (.int 2)] μ1 = some (.ok (fr q) μ5) := h5
        obtain ⟨d2, μ2, h2, D2, t, rfl⟩ := ih (c - 1) (by omega) (b + 1 + 2) n μ5 (by omega) D5 (by omega)
        rw [← hn] at h2
        refine Rl.call (b' := b + 12 * (2 * c + 1)) h (g := fn__law_made) rfl rfl (d := (Tm.times q t).d) (μ' := μ2) ?_ (D2.mono (by omega)) ⟨_, rfl⟩
        simp only [fn__law_made, exs, ex, ev, evv, evs, evi, evo, bind_pure, of_some, sbind_pure, snext_ret, snext_next, startE, lookD, List.map, List.length, List.replicate, List.cons_append, List.nil_append, List.append_nil, List.getElem?_cons_zero, List.getElem?_cons_succ, List.set_cons_zero, List.set_cons_succ, setT, Option.map_some, boolOf, idx_t, idx_l, atI0, atI1, atI2, c_eq_int, c_ne_int, c_lt, c_le, c_gt, c_ge, b_add, b_sub, bl_abs, intOf, lookC, M.bind, M.pure, M.of, sbind, snext, e0, h1', hk', se_times_size, se_times_times, h5', e1, h2]
        rfl
      | add =>
        obtain ⟨s, t, μ3, few, μ2, g1, μ4, g2, g3, g4⟩ := two
        refine Rl.call (b' := b + 12 * (2 * c + 1)) h (g := fn__law_made) rfl rfl (d := (Tm.add s t).d) (μ' := μ4) ?_ g4 ⟨_, rfl⟩
        simp only [fn__law_made, exs, ex, ev, evv, evs, evi, evo, bind_pure, of_some, sbind_pure, snext_ret, snext_next, startE, lookD, List.map, List.length, List.replicate, List.cons_append, List.nil_append, List.append_nil, List.getElem?_cons_zero, List.getElem?_cons_succ, List.set_cons_zero, List.set_cons_succ, setT, Option.map_some, boolOf, idx_t, idx_l, atI0, atI1, atI2, c_eq_int, c_ne_int, c_lt, c_le, c_gt, c_ge, b_add, b_sub, bl_abs, intOf, lookC, M.bind, M.pure, M.of, sbind, snext, e0, h1', hk', se_add_size, se_add_times, g1, g2, g3]
        rfl
      | more =>
        obtain ⟨s, t, μ3, few, μ2, g1, μ4, g2, g3, g4⟩ := two
        refine Rl.call (b' := b + 12 * (2 * c + 1)) h (g := fn__law_made) rfl rfl (d := (Tm.more s t).d) (μ' := μ4) ?_ g4 ⟨_, rfl⟩
        simp only [fn__law_made, exs, ex, ev, evv, evs, evi, evo, bind_pure, of_some, sbind_pure, snext_ret, snext_next, startE, lookD, List.map, List.length, List.replicate, List.cons_append, List.nil_append, List.append_nil, List.getElem?_cons_zero, List.getElem?_cons_succ, List.set_cons_zero, List.set_cons_succ, setT, Option.map_some, boolOf, idx_t, idx_l, atI0, atI1, atI2, c_eq_int, c_ne_int, c_lt, c_le, c_gt, c_ge, b_add, b_sub, bl_abs, intOf, lookC, M.bind, M.pure, M.of, sbind, snext, e0, h1', hk', se_more_size, se_more_times, g1, g2, g3]
        rfl
      | less =>
        obtain ⟨s, t, μ3, few, μ2, g1, μ4, g2, g3, g4⟩ := two
        refine Rl.call (b' := b + 12 * (2 * c + 1)) h (g := fn__law_made) rfl rfl (d := (Tm.less s t).d) (μ' := μ4) ?_ g4 ⟨_, rfl⟩
        simp only [fn__law_made, exs, ex, ev, evv, evs, evi, evo, bind_pure, of_some, sbind_pure, snext_ret, snext_next, startE, lookD, List.map, List.length, List.replicate, List.cons_append, List.nil_append, List.append_nil, List.getElem?_cons_zero, List.getElem?_cons_succ, List.set_cons_zero, List.set_cons_succ, setT, Option.map_some, boolOf, idx_t, idx_l, atI0, atI1, atI2, c_eq_int, c_ne_int, c_lt, c_le, c_gt, c_ge, b_add, b_sub, bl_abs, intOf, lookC, M.bind, M.pure, M.of, sbind, snext, e0, h1', hk', se_less_size, se_less_times, g1, g2, g3]
        rfl
end
end Mp

set_option maxRecDepth 100000
set_option maxHeartbeats 4000000
/-! Pu13: any term; points. -/
namespace Mp
open PySem L2
section
variable {G : Nat → Option D}
def IsT (G : Nat → Option D) (t : Tm) : Prop := Good t ∧ ∀ m, 25 ≤ m → callN G tb m 13 [.d t.d] = M.pure (.bool true)
theorem r_term_of (hG0 : G 0 = some (.int 60)) (hG1 : G 1 = some (.int 4)) (t : Tm) (hq : t.Q) (hs : shB 20 t.d = true) (hdp : t.dp ≤ 20) (h1 : t.cnt ≤ 60) (h2 : t.cuts ≤ 4) : IsT G t := by
  refine ⟨⟨hq, hdp, h1, h2⟩, fun m hm => ?_⟩
  obtain ⟨m, rfl⟩ : ∃ k, m = k + 25 := ⟨m - 25, by omega⟩
  refine call_pure (g := fn_is_term) rfl rfl fun μ => ?_
  have sh : callN G tb (m + 24) 9 [.d t.d, .d (.int 20)] = M.pure (.bool (shB 20 t.d)) := r_shaped 20 t.d (m + 24) t.okd (by omega)
  rw [hs] at sh
  have c1 : (t.cnt : Int) ≤ 60 := by omega
  have c2 : (t.cuts : Int) ≤ 4 := by omega
  have r1 : callN G tb (m + 24) 11 [.d t.d] = M.pure (.int (t.cnt : Int)) := r_count t (m + 24) (by omega)
  have r2 : callN G tb (m + 24) 12 [.d t.d] = M.pure (.int (t.cuts : Int)) := r_cuts t (m + 24) (by omega)
  simp only [fn_is_term, exs, ex, ev, evv, evs, evi, evo, bind_pure, of_some, sbind_pure, snext_ret, snext_next, startE, lookD, List.map, List.length, List.replicate, List.cons_append, List.nil_append, List.append_nil, List.getElem?_cons_zero, List.getElem?_cons_succ, List.set_cons_zero, List.set_cons_succ, setT, Option.map_some, boolOf, idx_t, idx_l, atI0, atI1, atI2, c_eq_int, c_ne_int, c_lt, c_le, c_gt, c_ge, b_add, b_sub, bl_abs, intOf, sh, r1, r2, hG0, hG1, c1, c2, decide_true]
theorem r_any (hG0 : G 0 = some (.int 60)) (hG1 : G 1 = some (.int 4)) {b n : Nat} {μ : Store} (h : Dice b μ) (hb : b < 2 ^ 56) (cuts : Nat) (hc : cuts ≤ 8) : Rl (b + 300) (fun d => ∃ t : Tm, d = t.d ∧ IsT G t) (callN G tb (n + 40) 37 [.c 0, .d (.int (cuts : Int))] μ) := by
  obtain ⟨d1, μ1, h1, D1, r1, rfl, l1⟩ := r_roll (G := G) (n := n + 37) h (by omega) (cuts + 1) (by omega) (by omega)
  obtain ⟨d2, μ2, h2, D2, r2, rfl, l2⟩ := r_roll (G := G) (n := n + 37) D1 (by omega) 3 (by decide) (by decide)
  obtain ⟨d3, μ3, h3, D3, t, rfl⟩ := r_made (G := G) (decide ((0 : Int) < (r2 : Int))) r1 (b + 1 + 1) (n + 34 - r1) μ2 (by omega) D2 (by omega)
  have f3 : n + 34 - r1 + r1 + 5 = n + 39 := by omega
  rw [f3] at h3
  have e1 : (cuts : Int) + 1 = ((cuts + 1 : Nat) : Int) := by omega
  have h2' : callN G tb (n + 39) 25 [.c 0, .d (.int 3)] μ1 = some (.ok (.int (r2 : Int)) μ2) := h2
  have e5 : PyData.tuple [.str (Str.ofString "size"), .tuple [.str (Str.ofString "in"), .int 0]] = (Tm.size (.inp false)).d := rfl
  rcases r_term hG0 hG1 t.d t.okd with ⟨t', et, gd, run⟩ | run
  · refine Rl.call (b' := b + 300) h (g := fn__law_any) rfl rfl (d := t.d) (μ' := μ3) ?_ (D3.mono (by omega)) ⟨t', et, gd, by rw [← et]; exact run⟩
    have rn := run (n + 39) (by omega)
    simp only [fn__law_any, exs, ex, ev, evv, evs, evi, evo, bind_pure, of_some, sbind_pure, snext_ret, snext_next, startE, lookD, List.map, List.length, List.replicate, List.cons_append, List.nil_append, List.append_nil, List.getElem?_cons_zero, List.getElem?_cons_succ, List.set_cons_zero, List.set_cons_succ, setT, Option.map_some, boolOf, idx_t, idx_l, atI0, atI1, atI2, c_eq_int, c_ne_int, c_lt, c_le, c_gt, c_ge, b_add, b_sub, bl_abs, intOf, lookC, M.bind, M.pure, M.of, sbind, snext, e1, h1, h2', h3, rn]
  · refine Rl.call (b' := b + 300) h (g := fn__law_any) rfl rfl (d := (Tm.size (.inp false)).d) (μ' := μ3) ?_ (D3.mono (by omega)) ⟨_, rfl, r_term_of hG0 hG1 _ trivial (by decide +kernel) (by decide) (by decide) (by decide)⟩
    have rn := run (n + 39) (by omega)
    simp only [fn__law_any, exs, ex, ev, evv, evs, evi, evo, bind_pure, of_some, sbind_pure, snext_ret, snext_next, startE, lookD, List.map, List.length, List.replicate, List.cons_append, List.nil_append, List.append_nil, List.getElem?_cons_zero, List.getElem?_cons_succ, List.set_cons_zero, List.set_cons_succ, setT, Option.map_some, boolOf, idx_t, idx_l, atI0, atI1, atI2, c_eq_int, c_ne_int, c_lt, c_le, c_gt, c_ge, b_add, b_sub, bl_abs, intOf, lookC, M.bind, M.pure, M.of, sbind, snext, e1, h1, h2', h3, rn, e5]
end
end Mp

set_option maxRecDepth 100000
set_option maxHeartbeats 4000000
/-! Hw: runs by what holds behind them. -/
namespace Mp
open PySem L2
@[irreducible] def Wr {α : Type} (r : Option (Res α)) (Q : α → Store → Prop) (E : Nat → Store → Prop) : Prop := match r with
  | none => False
  | some (.ok a μ) => Q a μ
  | some (.exc c μ) => E c μ
structure Pst where
  n : En → Store → Prop
  r : D → Store → Prop
  c : Nat → Store → Prop
  e : Nat → Store → Prop
@[irreducible] def Ws (r : Option SR) (P : Pst) : Prop := match r with
  | none => False
  | some (.next en μ) => P.n en μ
  | some (.ret d μ) => P.r d μ
  | some (.retC c μ) => P.c c μ
  | some (.exc c μ) => P.e c μ
theorem Wr.mono {α : Type} {r : Option (Res α)} {Q Q' : α → Store → Prop} {E E' : Nat → Store → Prop} (h : Wr r Q E) (hq : ∀ a μ, Q a μ → Q' a μ) (he : ∀ c μ, E c μ → E' c μ) : Wr r Q' E' := by
  unfold Wr at h ⊢
  cases r with
  | none => exact h
  | some r => cases r with
    | ok a μ => exact hq a μ h
    | exc c μ => exact he c μ h
theorem Ws.mono {r : Option SR} {P P' : Pst} (h : Ws r P) (h1 : ∀ en μ, P.n en μ → P'.n en μ) (h2 : ∀ d μ, P.r d μ → P'.r d μ) (h3 : ∀ c μ, P.c c μ → P'.c c μ) (h4 : ∀ c μ, P.e c μ → P'.e c μ) : Ws r P' := by
  unfold Ws at h ⊢
  cases r with
  | none => exact h
  | some r => cases r with
    | next a μ => exact h1 a μ h
    | ret d μ => exact h2 d μ h
    | retC c μ => exact h3 c μ h
    | exc c μ => exact h4 c μ h
theorem Wr_bind {α β : Type} {m : M α} {k : α → M β} {μ : Store} {Q : β → Store → Prop} {E : Nat → Store → Prop} : Wr (M.bind m k μ) Q E ↔ Wr (m μ) (fun a μ' => Wr (k a μ') Q E) E := by
  unfold M.bind Wr
  cases m μ with
  | none => exact Iff.rfl
  | some r => cases r <;> exact Iff.rfl
theorem Wr_pure {α : Type} {a : α} {μ : Store} {Q : α → Store → Prop} {E : Nat → Store → Prop} : Wr (M.pure a μ) Q E ↔ Q a μ := by unfold Wr; exact Iff.rfl
theorem Wr_raise {α : Type} {c : Nat} {μ : Store} {Q : α → Store → Prop} {E : Nat → Store → Prop} : Wr ((M.raise c : M α) μ) Q E ↔ E c μ := by unfold Wr; exact Iff.rfl
theorem Wr_ok {α : Type} {a : α} {μ : Store} {Q : α → Store → Prop} {E : Nat → Store → Prop} : Wr (some (.ok a μ)) Q E ↔ Q a μ := by unfold Wr; exact Iff.rfl
theorem Ws_snext {r : Option SR} {k : En → Store → Option SR} {P : Pst} : Ws (snext r k) P ↔ Ws r ⟨fun en μ => Ws (k en μ) P, P.r, P.c, P.e⟩ := by
  unfold Ws
  cases r with
  | none => exact Iff.rfl
  | some r => cases r <;> exact Iff.rfl
theorem Ws_sbind {α : Type} {r : Option (Res α)} {k : α → Store → Option SR} {P : Pst} : Ws (sbind r k) P ↔ Wr r (fun a μ => Ws (k a μ) P) P.e := by
  unfold Ws Wr
  cases r with
  | none => exact Iff.rfl
  | some r => cases r <;> exact Iff.rfl
theorem Ws_next {en : En} {μ : Store} {P : Pst} : Ws (some (.next en μ)) P ↔ P.n en μ := by unfold Ws; exact Iff.rfl
theorem Ws_ret {d : D} {μ : Store} {P : Pst} : Ws (some (.ret d μ)) P ↔ P.r d μ := by unfold Ws; exact Iff.rfl
theorem Ws_retC {c : Nat} {μ : Store} {P : Pst} : Ws (some (.retC c μ)) P ↔ P.c c μ := by unfold Ws; exact Iff.rfl
theorem Ws_exc {c : Nat} {μ : Store} {P : Pst} : Ws (some (.exc c μ)) P ↔ P.e c μ := by unfold Ws; exact Iff.rfl
theorem Ws_nil {G : Nat → Option D} {call : Nat → List Val → M D} {en : En} {μ : Store} {P : Pst} : Ws (exs G call [] en μ) P ↔ P.n en μ := by
  unfold exs; exact Ws_next
theorem Ws_cons {G : Nat → Option D} {call : Nat → List Val → M D} {s : MS} {r : List MS} {en : En} {μ : Store} {P : Pst} : Ws (exs G call (s :: r) en μ) P ↔ Ws (ex G call s en μ) ⟨fun en μ => Ws (exs G call r en μ) P, P.r, P.c, P.e⟩ := by
  rw [exs]; exact Ws_snext
/-- a statement, then the rest -/
theorem Ws_step {G : Nat → Option D} {call : Nat → List Val → M D} {s : MS} {r : List MS} {en : En} {μ : Store} {P : Pst} (J : En → Store → Prop) (h1 : Ws (ex G call s en μ) ⟨J, P.r, P.c, P.e⟩) (h2 : ∀ en μ, J en μ → Ws (exs G call r en μ) P) : Ws (exs G call (s :: r) en μ) P :=
  Ws_cons.mpr (h1.mono h2 (fun _ _ h => h) (fun _ _ h => h) (fun _ _ h => h))
theorem Ws_one {G : Nat → Option D} {call : Nat → List Val → M D} {s : MS} {r : List MS} {en en' : En} {μ μ' : Store} {P : Pst} (h1 : ex G call s en μ = some (.next en' μ')) (h2 : Ws (exs G call r en' μ') P) : Ws (exs G call (s :: r) en μ) P := by
  rw [Ws_cons, h1, Ws_next]; exact h2
theorem Ws_for {t : Tg} {b : En → Store → Option SR} {P : Pst} (I : Nat → En → Store → Prop) : ∀ (xs : List D) (k : Nat) (en : En) (μ : Store), I k en μ →
    (∀ j x en μ, xs[j]? = some x → I (k + j) en μ → ∃ en', setT t x en = some en' ∧ Ws (b en' μ) ⟨I (k + j + 1), P.r, P.c, P.e⟩) → (∀ en μ, I (k + xs.length) en μ → P.n en μ) → Ws (forL t b xs en μ) P
  | [], k, en, μ, h0, hs, hf => by
    unfold forL
    exact Ws_next.mpr (hf en μ h0)
  | x :: r, k, en, μ, h0, hs, hf => by
    obtain ⟨en', e1, h1⟩ := hs 0 x en μ rfl h0
    unfold forL
    rw [e1]
    show Ws (snext (b en' μ) fun en μ => forL t b r en μ) P
    rw [Ws_snext]
    refine h1.mono (fun en2 μ2 h2 => ?_) (fun _ _ h => h) (fun _ _ h => h) (fun _ _ h => h)
    refine Ws_for I r (k + 1) en2 μ2 h2 (fun j y en μ ey hi => ?_) (fun en μ hi => hf en μ ?_)
    · have e : k + 1 + j = k + (j + 1) := by omega
      rw [e] at hi
      obtain ⟨en3, a, c⟩ := hs (j + 1) y en μ ey hi
      refine ⟨en3, a, ?_⟩
      have e : k + 1 + j + 1 = k + (j + 1) + 1 := by omega
      rw [e]
      exact c
    · rw [List.length_cons]
      have e : k + 1 + r.length = k + (r.length + 1) := by omega
      rw [← e]
      exact hi
/-- a loop -/
theorem Ws_fr {G : Nat → Option D} {call : Nat → List Val → M D} {t : Tg} {it : MI} {b : List MS} {en : En} {μ μ' : Store} {P : Pst} (xs : List D) (I : Nat → En → Store → Prop) (hi : evi G call it en μ = some (.ok xs μ')) (h0 : I 0 en μ')
    (hs : ∀ j x en μ, xs[j]? = some x → I j en μ → ∃ en', setT t x en = some en' ∧ Ws (exs G call b en' μ) ⟨I (j + 1), P.r, P.c, P.e⟩) (hf : ∀ en μ, I xs.length en μ → P.n en μ) : Ws (ex G call (.fr t it b) en μ) P := by
  rw [ex, hi, Ws_sbind, Wr_ok]
  refine Ws_for I xs 0 en μ' h0 (fun j x en μ e h => ?_) (fun en μ h => hf en μ ?_)
  · rw [Nat.zero_add] at h ⊢
    exact hs j x en μ e h
  · rw [Nat.zero_add] at h
    exact h
/-- a loop over what a run tells -/
theorem Ws_frW {G : Nat → Option D} {call : Nat → List Val → M D} {t : Tg} {it : MI} {b : List MS} {en : En} {μ : Store} {P : Pst} {J : List D → Store → Prop} (hi : Wr (evi G call it en μ) J (fun _ _ => False)) (h : ∀ xs μ', J xs μ' → Ws (forL t (fun en μ => exs G call b en μ) xs en μ') P) : Ws (ex G call (.fr t it b) en μ) P := by
  rw [ex, Ws_sbind]
  exact hi.mono h (fun _ _ z => z.elim)
theorem Wr_nox {α : Type} {m : M α} {μ : Store} {Q : α → Store → Prop} {E : Nat → Store → Prop} (h : Wr (m μ) Q (fun _ _ => False)) : Wr (m.nox μ) Q E := by
  unfold M.nox
  unfold Wr at h ⊢
  cases q : m μ with
  | none => rw [q] at h; exact h.elim
  | some r =>
    rw [q] at h
    cases r with
    | ok a μ' => exact h
    | exc c μ' => exact h.elim
theorem Wr_mapM {f : D → M D} {E : Nat → Store → Prop} (I : List D → Store → Prop) : ∀ (xs ys : List D) (μ : Store), I ys μ → (∀ x ∈ xs, ∀ zs μ, zs.length < ys.length + xs.length → I zs μ → Wr (f x μ) (fun y μ' => I (zs ++ [y]) μ') E) → Wr (mapM' f xs μ) (fun zs μ' => I (ys ++ zs) μ' ∧ zs.length = xs.length) E
  | [], ys, μ, h0, _ => by
    show Wr (M.pure [] μ) _ _
    rw [Wr_pure, List.append_nil]
    exact ⟨h0, rfl⟩
  | x :: r, ys, μ, h0, hs => by
    rw [mapM_cons, Wr_bind]
    refine (hs x List.mem_cons_self ys μ (by rw [List.length_cons]; omega) h0).mono (fun y μ1 h1 => ?_) (fun _ _ z => z)
    rw [Wr_bind]
    refine (Wr_mapM I r (ys ++ [y]) μ1 h1 (fun z hz zs μ hl => hs z (List.mem_cons_of_mem _ hz) zs μ (by rw [List.length_append, List.length_singleton] at hl; rw [List.length_cons]; omega))).mono (fun zs μ2 h2 => ?_) (fun _ _ z => z)
    rw [Wr_pure]
    refine ⟨?_, by rw [List.length_cons, List.length_cons, h2.2]⟩
    have := h2.1
    rw [List.append_assoc] at this
    exact this
section
variable {G : Nat → Option D} {n f : Nat} {g : Fn} {vs : List Val}
theorem Wr_call {μ : Store} {Q : D → Store → Prop} {E : Nat → Store → Prop} (h : tb f = some (.df g)) (hl : vs.length = g.ar)
    (hb : Ws (exs G (callN G tb n) g.body (startE g.sl vs) μ) ⟨fun _ μ' => Q .none (μ'.take μ.length), fun d μ' => Q d (μ'.take μ.length), fun c μ' => μ.length ≤ c ∧ ∃ xs, cellL μ' c = some xs ∧ Q (.list xs) (μ'.take μ.length), fun c μ' => E c (μ'.take μ.length)⟩) : Wr (callN G tb (n + 1) f vs μ) Q E := by
  rw [call_df h hl]
  cases q : exs G (callN G tb n) g.body (startE g.sl vs) μ with
  | none => rw [q] at hb; unfold Ws at hb; exact hb.elim
  | some r =>
    rw [q] at hb
    cases r with
    | next en μ' => exact Wr_ok.mpr (Ws_next.mp hb)
    | ret d μ' => exact Wr_ok.mpr (Ws_ret.mp hb)
    | exc c μ' => unfold Ws at hb; unfold Wr; exact hb
    | retC c μ' =>
      obtain ⟨h1, xs, h2, h3⟩ := Ws_retC.mp hb
      show Wr (if μ.length ≤ c then (cellL μ' c).map fun xs => Res.ok (PyData.list xs) (μ'.take μ.length) else none) Q E
      rw [if_pos h1, h2]
      exact Wr_ok.mpr h3
/-- a call that changes nothing -/
theorem pure_of {m : M D} {d : D} (h : ∀ μ, Wr (m μ) (fun d' μ' => d' = d ∧ μ' = μ) (fun _ _ => False)) : m = M.pure d := by
  funext μ
  have := h μ
  unfold Wr at this
  cases q : m μ with
  | none => rw [q] at this; exact this.elim
  | some r =>
    rw [q] at this
    cases r with
    | exc c μ' => exact this.elim
    | ok a μ' => obtain ⟨rfl, rfl⟩ := this; rfl
theorem Wr_rl {b : Nat} {P : D → Prop} {r : Option (Res D)} (h : Rl b P r) : Wr r (fun d μ => Dice b μ ∧ P d) (fun _ _ => False) := by
  obtain ⟨d, μ', e, h1, h2⟩ := h
  rw [e]
  exact Wr_ok.mpr ⟨h1, h2⟩
theorem rl_wr {b : Nat} {P : D → Prop} {r : Option (Res D)} (h : Wr r (fun d μ => Dice b μ ∧ P d) (fun _ _ => False)) : Rl b P r := by
  unfold Wr at h
  cases r with
  | none => exact h.elim
  | some r => cases r with
    | ok a μ => exact ⟨a, μ, rfl, h.1, h.2⟩
    | exc c μ => exact h.elim
theorem run_of {lb : List MS} {en : En} {μ : Store} {call : Nat → List Val → M D} (h : Ws (exs G call lb en μ) ⟨fun _ _ => True, fun _ _ => False, fun _ _ => False, fun _ _ => False⟩) : ∃ en' μ', exs G call lb en μ = some (.next en' μ') := by
  unfold Ws at h
  cases q : exs G call lb en μ with
  | none => rw [q] at h; exact h.elim
  | some r =>
    rw [q] at h
    cases r with
    | next en' μ' => exact ⟨en', μ', rfl⟩
    | ret _ _ => exact h.elim
    | retC _ _ => exact h.elim
    | exc _ _ => exact h.elim
end
end Mp

set_option maxRecDepth 100000
set_option maxHeartbeats 4000000
/-! Pu17: k03's round. -/
namespace Mp
open PySem L2
def Tm.kind : Tm → Str
  | .inp _ => Str.ofString "in"
  | .num _ => Str.ofString "num"
  | .times _ _ => Str.ofString "times"
  | .size _ => Str.ofString "size"
  | .add _ _ => Str.ofString "add"
  | .more _ _ => Str.ofString "more"
  | .less _ _ => Str.ofString "less"
def Tm.rest : Tm → List D
  | .inp b => [.int (if b then 1 else 0)]
  | .num q => [fr q]
  | .times q t => [fr q, t.d]
  | .size t => [t.d]
  | .add s t => [s.d, t.d]
  | .more s t => [s.d, t.d]
  | .less s t => [s.d, t.d]
theorem Tm.d_eq : ∀ t : Tm, t.d = .tuple (.str t.kind :: t.rest)
  | .inp _ => rfl
  | .num _ => rfl
  | .times _ _ => rfl
  | .size _ => rfl
  | .add _ _ => rfl
  | .more _ _ => rfl
  | .less _ _ => rfl
theorem tm_isT (t : Tm) : isTy t.d .tuple = true := by rw [t.d_eq]; rfl
theorem tm_ty (t : Tm) : tyOk t.d = true := by rw [t.d_eq]; rfl
theorem tm_ix0 (t : Tm) : idxD t.d (.int 0) = some (.str t.kind) := by rw [t.d_eq]; exact atI0 _ _
theorem str_isS (k : Str) : isTy (.str k) .str = true := rfl
theorem str_ty (k : Str) : tyOk (.str k) = true := rfl
theorem fr_isT (q : Rat) : isTy (fr q) .tuple = true := rfl
theorem fr_ty (q : Rat) : tyOk (fr q) = true := rfl
theorem fr_ix0 (q : Rat) : idxD (fr q) (.int 0) = some (.int q.num) := atI0 _ _
theorem int_isS (i : Int) : isTy (.int i) .str = false := rfl
theorem int_isT (i : Int) : isTy (.int i) .tuple = false := rfl
theorem int_ty (i : Int) : tyOk (.int i) = true := rfl
theorem sl2 (a b : D) : slD (.tuple [a, b]) (some 1) none = some (.tuple [b]) := rfl
theorem sl3 (a b c : D) : slD (.tuple [a, b, c]) (some 1) none = some (.tuple [b, c]) := rfl
theorem add_l {xs ys : List D} (h : xs.length + ys.length ≤ 1000000) : bop .add (.list xs) (.list ys) = some (.list (xs ++ ys)) := if_pos h
def Tm.subs : Tm → List Tm
  | .inp b => [.inp b]
  | .num q => [.num q]
  | .times q t => .times q t :: t.subs
  | .size t => .size t :: t.subs
  | .add s t => .add s t :: (s.subs ++ t.subs)
  | .more s t => .more s t :: (s.subs ++ t.subs)
  | .less s t => .less s t :: (s.subs ++ t.subs)
theorem subs_len : ∀ t : Tm, t.subs.length = t.cnt
  | .inp _ => rfl
  | .num _ => rfl
  | .times q t => by show t.subs.length + 1 = 1 + t.cnt; rw [subs_len t]; omega
  | .size t => by show t.subs.length + 1 = 1 + t.cnt; rw [subs_len t]; omega
  | .add s t => by show (s.subs ++ t.subs).length + 1 = 1 + (s.cnt + t.cnt); rw [List.length_append, subs_len s, subs_len t]; omega
  | .more s t => by show (s.subs ++ t.subs).length + 1 = 1 + (s.cnt + t.cnt); rw [List.length_append, subs_len s, subs_len t]; omega
  | .less s t => by show (s.subs ++ t.subs).length + 1 = 1 + (s.cnt + t.cnt); rw [List.length_append, subs_len s, subs_len t]; omega
def Tm.isCut : Tm → Bool
  | .size _ => true
  | .more _ _ => true
  | .less _ _ => true
  | _ => false
theorem subs_cuts : ∀ t : Tm, (t.subs.filter Tm.isCut).length = t.cuts
  | .inp _ => rfl
  | .num _ => rfl
  | .times q t => by
    have := subs_cuts t
    show ((Tm.times q t :: t.subs).filter Tm.isCut).length = t.cuts
    rw [List.filter_cons]; simpa [Tm.isCut] using this
  | .size t => by
    have := subs_cuts t
    show ((Tm.size t :: t.subs).filter Tm.isCut).length = 1 + t.cuts
    rw [List.filter_cons]; simp [Tm.isCut, this]; omega
  | .add s t => by
    have a := subs_cuts s; have b := subs_cuts t
    show ((Tm.add s t :: (s.subs ++ t.subs)).filter Tm.isCut).length = s.cuts + t.cuts
    rw [List.filter_cons, List.filter_append]; simp [Tm.isCut, a, b]
  | .more s t => by
    have a := subs_cuts s; have b := subs_cuts t
    show ((Tm.more s t :: (s.subs ++ t.subs)).filter Tm.isCut).length = 1 + (s.cuts + t.cuts)
    rw [List.filter_cons, List.filter_append]; simp [Tm.isCut, a, b]; omega
  | .less s t => by
    have a := subs_cuts s; have b := subs_cuts t
    show ((Tm.less s t :: (s.subs ++ t.subs)).filter Tm.isCut).length = 1 + (s.cuts + t.cuts)
    rw [List.filter_cons, List.filter_append]; simp [Tm.isCut, a, b]; omega
section
variable {G : Nat → Option D}
theorem r_lparts : ∀ (t : Tm) (m : Nat), t.cnt ≤ 60 → t.dp + 1 ≤ m → callN G tb m 74 [.d t.d] = M.pure (.list (t.subs.map Tm.d))
  | .inp b, m, hc, hm => by
    obtain ⟨m, rfl⟩ : ∃ k, m = k + 1 := ⟨m - 1, by omega⟩
    refine call_pure (g := fn__law_parts) rfl rfl fun μ => ?_
    simp only [Tm.d, fn__law_parts, exs, ex, ev, evv, evs, evi, evo, bind_pure, of_some, sbind_pure, snext_ret, snext_next, startE, lookD, List.map, List.length, List.replicate, List.cons_append, List.nil_append, List.append_nil, List.getElem?_cons_zero, List.getElem?_cons_succ, List.set_cons_zero, List.set_cons_succ, setT, Option.map_some, boolOf, idx_t, idx_l, atI0, atI1, atI2, c_eq_int, c_ne_int, c_lt, c_le, c_gt, c_ge, b_add, b_sub, bl_abs, intOf, sl2, seqOf, forL, int_isT, int_ty, if_true]
    rfl
  | .num q, m, hc, hm => by
    obtain ⟨m, rfl⟩ : ∃ k, m = k + 1 := ⟨m - 1, by omega⟩
    refine call_pure (g := fn__law_parts) rfl rfl fun μ => ?_
    simp only [Tm.d, fn__law_parts, exs, ex, ev, evv, evs, evi, evo, bind_pure, of_some, sbind_pure, snext_ret, snext_next, startE, lookD, List.map, List.length, List.replicate, List.cons_append, List.nil_append, List.append_nil, List.getElem?_cons_zero, List.getElem?_cons_succ, List.set_cons_zero, List.set_cons_succ, setT, Option.map_some, boolOf, idx_t, idx_l, atI0, atI1, atI2, c_eq_int, c_ne_int, c_lt, c_le, c_gt, c_ge, b_add, b_sub, bl_abs, intOf, sl2, seqOf, forL, fr_isT, fr_ty, fr_ix0, int_isS, int_ty, if_true]
    rfl
  | .times q t, m, hc, hm => by
    have hdp : (Tm.times q t).dp = t.dp + 1 := rfl
    have hct : (Tm.times q t).cnt = 1 + t.cnt := rfl
    obtain ⟨m, rfl⟩ : ∃ k, m = k + 1 := ⟨m - 1, by omega⟩
    refine call_pure (g := fn__law_parts) rfl rfl fun μ => ?_
    have ih := r_lparts t m (by omega) (by omega)
    have e1 : bop .add (.list [PyData.tuple [.str (Str.ofString "times"), fr q, t.d]]) (.list (t.subs.map Tm.d)) = some (.list ([PyData.tuple [.str (Str.ofString "times"), fr q, t.d]] ++ t.subs.map Tm.d)) := add_l (by rw [List.length_map, subs_len]; show 1 + _ ≤ _; omega)
    simp only [Tm.d, fn__law_parts, exs, ex, ev, evv, evs, evi, evo, bind_pure, of_some, sbind_pure, snext_ret, snext_next, startE, lookD, List.map, List.length, List.replicate, List.cons_append, List.nil_append, List.append_nil, List.getElem?_cons_zero, List.getElem?_cons_succ, List.set_cons_zero, List.set_cons_succ, setT, Option.map_some, boolOf, idx_t, idx_l, atI0, atI1, atI2, c_eq_int, c_ne_int, c_lt, c_le, c_gt, c_ge, b_add, b_sub, bl_abs, intOf, sl3, seqOf, forL, fr_isT, fr_ty, fr_ix0, int_isS, int_ty, tm_isT, tm_ty, tm_ix0, str_isS, str_ty, if_true, ih, e1]
    rfl
  | .size t, m, hc, hm => by
    have hdp : (Tm.size t).dp = t.dp + 1 := rfl
    have hct : (Tm.size t).cnt = 1 + t.cnt := rfl
    obtain ⟨m, rfl⟩ : ∃ k, m = k + 1 := ⟨m - 1, by omega⟩
    refine call_pure (g := fn__law_parts) rfl rfl fun μ => ?_
    have ih := r_lparts t m (by omega) (by omega)
    have e1 : bop .add (.list [PyData.tuple [.str (Str.ofString "size"), t.d]]) (.list (t.subs.map Tm.d)) = some (.list ([PyData.tuple [.str (Str.ofString "size"), t.d]] ++ t.subs.map Tm.d)) := add_l (by rw [List.length_map, subs_len]; show 1 + _ ≤ _; omega)
    simp only [Tm.d, fn__law_parts, exs, ex, ev, evv, evs, evi, evo, bind_pure, of_some, sbind_pure, snext_ret, snext_next, startE, lookD, List.map, List.length, List.replicate, List.cons_append, List.nil_append, List.append_nil, List.getElem?_cons_zero, List.getElem?_cons_succ, List.set_cons_zero, List.set_cons_succ, setT, Option.map_some, boolOf, idx_t, idx_l, atI0, atI1, atI2, c_eq_int, c_ne_int, c_lt, c_le, c_gt, c_ge, b_add, b_sub, bl_abs, intOf, sl2, seqOf, forL, tm_isT, tm_ty, tm_ix0, str_isS, str_ty, if_true, ih, e1]
    rfl
  | .add s t, m, hc, hm => by
    have hdp : (Tm.add s t).dp = max s.dp t.dp + 1 := rfl
    have hct : (Tm.add s t).cnt = 1 + (s.cnt + t.cnt) := rfl
    obtain ⟨m, rfl⟩ : ∃ k, m = k + 1 := ⟨m - 1, by omega⟩
    refine call_pure (g := fn__law_parts) rfl rfl fun μ => ?_
    have i1 := r_lparts s m (by omega) (by omega)
    have i2 := r_lparts t m (by omega) (by omega)
    have e1 : bop .add (.list [PyData.tuple [.str (Str.ofString "add"), s.d, t.d]]) (.list (s.subs.map Tm.d)) = some (.list (PyData.tuple [.str (Str.ofString "add"), s.d, t.d] :: s.subs.map Tm.d)) := add_l (by rw [List.length_map, subs_len]; show 1 + _ ≤ _; omega)
    have e2 : bop .add (.list (PyData.tuple [.str (Str.ofString "add"), s.d, t.d] :: s.subs.map Tm.d)) (.list (t.subs.map Tm.d)) = some (.list (PyData.tuple [.str (Str.ofString "add"), s.d, t.d] :: (s.subs.map Tm.d ++ t.subs.map Tm.d))) := add_l (by rw [List.length_cons, List.length_map, List.length_map, subs_len, subs_len]; omega)
    have e3 : (Tm.add s t).subs.map Tm.d = PyData.tuple [.str (Str.ofString "add"), s.d, t.d] :: (s.subs.map Tm.d ++ t.subs.map Tm.d) := by
      show (Tm.add s t :: (s.subs ++ t.subs)).map Tm.d = _
      rw [List.map_cons, List.map_append]; rfl
    rw [e3]
    simp only [Tm.d, fn__law_parts, exs, ex, ev, evv, evs, evi, evo, bind_pure, of_some, sbind_pure, snext_ret, snext_next, startE, lookD, List.map, List.length, List.replicate, List.cons_append, List.nil_append, List.append_nil, List.getElem?_cons_zero, List.getElem?_cons_succ, List.set_cons_zero, List.set_cons_succ, setT, Option.map_some, boolOf, idx_t, idx_l, atI0, atI1, atI2, c_eq_int, c_ne_int, c_lt, c_le, c_gt, c_ge, b_add, b_sub, bl_abs, intOf, sl3, seqOf, forL, tm_isT, tm_ty, tm_ix0, str_isS, str_ty, if_true, i1, i2, e1, e2]
  | .more s t, m, hc, hm => by
    have hdp : (Tm.more s t).dp = max s.dp t.dp + 1 := rfl
    have hct : (Tm.more s t).cnt = 1 + (s.cnt + t.cnt) := rfl
    obtain ⟨m, rfl⟩ : ∃ k, m = k + 1 := ⟨m - 1, by omega⟩
    refine call_pure (g := fn__law_parts) rfl rfl fun μ => ?_
    have i1 := r_lparts s m (by omega) (by omega)
    have i2 := r_lparts t m (by omega) (by omega)
    have e1 : bop .add (.list [PyData.tuple [.str (Str.ofString "more"), s.d, t.d]]) (.list (s.subs.map Tm.d)) = some (.list (PyData.tuple [.str (Str.ofString "more"), s.d, t.d] :: s.subs.map Tm.d)) := add_l (by rw [List.length_map, subs_len]; show 1 + _ ≤ _; omega)
    have e2 : bop .add (.list (PyData.tuple [.str (Str.ofString "more"), s.d, t.d] :: s.subs.map Tm.d)) (.list (t.subs.map Tm.d)) = some (.list (PyData.tuple [.str (Str.ofString "more"), s.d, t.d] :: (s.subs.map Tm.d ++ t.subs.map Tm.d))) := add_l (by rw [List.length_cons, List.length_map, List.length_map, subs_len, subs_len]; omega)
    have e3 : (Tm.more s t).subs.map Tm.d = PyData.tuple [.str (Str.ofString "more"), s.d, t.d] :: (s.subs.map Tm.d ++ t.subs.map Tm.d) := by
      show (Tm.more s t :: (s.subs ++ t.subs)).map Tm.d = _
      rw [List.map_cons, List.map_append]; rfl
    rw [e3]
    simp only [Tm.d, fn__law_parts, exs, ex, ev, evv, evs, evi, evo, bind_pure, of_some, sbind_pure, snext_ret, snext_next, startE, lookD, List.map, List.length, List.replicate, List.cons_append, List.nil_append, List.append_nil, List.getElem?_cons_zero, List.getElem?_cons_succ, List.set_cons_zero, List.set_cons_succ, setT, Option.map_some, boolOf, idx_t, idx_l, atI0, atI1, atI2, c_eq_int, c_ne_int, c_lt, c_le, c_gt, c_ge, b_add, b_sub, bl_abs, intOf, sl3, seqOf, forL, tm_isT, tm_ty, tm_ix0, str_isS, str_ty, if_true, i1, i2, e1, e2]
  | .less s t, m, hc, hm => by
    have hdp : (Tm.less s t).dp = max s.dp t.dp + 1 := rfl
    have hct : (Tm.less s t).cnt = 1 + (s.cnt + t.cnt) := rfl
    obtain ⟨m, rfl⟩ : ∃ k, m = k + 1 := ⟨m - 1, by omega⟩
    refine call_pure (g := fn__law_parts) rfl rfl fun μ => ?_
    have i1 := r_lparts s m (by omega) (by omega)
    have i2 := r_lparts t m (by omega) (by omega)
    have e1 : bop .add (.list [PyData.tuple [.str (Str.ofString "less"), s.d, t.d]]) (.list (s.subs.map Tm.d)) = some (.list (PyData.tuple [.str (Str.ofString "less"), s.d, t.d] :: s.subs.map Tm.d)) := add_l (by rw [List.length_map, subs_len]; show 1 + _ ≤ _; omega)
    have e2 : bop .add (.list (PyData.tuple [.str (Str.ofString "less"), s.d, t.d] :: s.subs.map Tm.d)) (.list (t.subs.map Tm.d)) = some (.list (PyData.tuple [.str (Str.ofString "less"), s.d, t.d] :: (s.subs.map Tm.d ++ t.subs.map Tm.d))) := add_l (by rw [List.length_cons, List.length_map, List.length_map, subs_len, subs_len]; omega)
    have e3 : (Tm.less s t).subs.map Tm.d = PyData.tuple [.str (Str.ofString "less"), s.d, t.d] :: (s.subs.map Tm.d ++ t.subs.map Tm.d) := by
      show (Tm.less s t :: (s.subs ++ t.subs)).map Tm.d = _
      rw [List.map_cons, List.map_append]; rfl
    rw [e3]
    simp only [Tm.d, fn__law_parts, exs, ex, ev, evv, evs, evi, evo, bind_pure, of_some, sbind_pure, snext_ret, snext_next, startE, lookD, List.map, List.length, List.replicate, List.cons_append, List.nil_append, List.append_nil, List.getElem?_cons_zero, List.getElem?_cons_succ, List.set_cons_zero, List.set_cons_succ, setT, Option.map_some, boolOf, idx_t, idx_l, atI0, atI1, atI2, c_eq_int, c_ne_int, c_lt, c_le, c_gt, c_ge, b_add, b_sub, bl_abs, intOf, sl3, seqOf, forL, tm_isT, tm_ty, tm_ix0, str_isS, str_ty, if_true, i1, i2, e1, e2]
end
end Mp

set_option maxRecDepth 100000
set_option maxHeartbeats 4000000
/-! Pu18: k03's round, the rest. -/
namespace Mp
open PySem L2
section
variable {G : Nat → Option D}
theorem r_is_no {d : D} (hd : okL d) (hs : shB 20 d = false) (m : Nat) (hm : 25 ≤ m) : callN G tb m 13 [.d d] = M.pure (.bool false) := by
  obtain ⟨m, rfl⟩ : ∃ k, m = k + 25 := ⟨m - 25, by omega⟩
  refine call_pure (g := fn_is_term) rfl rfl fun μ => ?_
  have sh : callN G tb (m + 24) 9 [.d d, .d (.int 20)] = M.pure (.bool (shB 20 d)) := r_shaped 20 d (m + 24) hd (by omega)
  rw [hs] at sh
  simp only [fn_is_term, exs, ex, ev, evv, evs, evi, evo, bind_pure, of_some, sbind_pure, snext_ret, snext_next, startE, lookD, List.map, List.length, List.replicate, List.cons_append, List.nil_append, List.append_nil, List.getElem?_cons_zero, List.getElem?_cons_succ, List.set_cons_zero, List.set_cons_succ, setT, Option.map_some, boolOf, idx_t, idx_l, atI0, atI1, atI2, c_eq_int, c_ne_int, c_lt, c_le, c_gt, c_ge, b_add, b_sub, bl_abs, intOf, sh]
theorem r_is_tm (hG0 : G 0 = some (.int 60)) (hG1 : G 1 = some (.int 4)) (t : Tm) (hs : shB 20 t.d = true) (hdp : t.dp ≤ 20) (m : Nat) (hm : 25 ≤ m) : callN G tb m 13 [.d t.d] = M.pure (.bool (decide (t.cnt ≤ 60) && decide (t.cuts ≤ 4))) := by
  obtain ⟨m, rfl⟩ : ∃ k, m = k + 25 := ⟨m - 25, by omega⟩
  refine call_pure (g := fn_is_term) rfl rfl fun μ => ?_
  have sh : callN G tb (m + 24) 9 [.d t.d, .d (.int 20)] = M.pure (.bool (shB 20 t.d)) := r_shaped 20 t.d (m + 24) t.okd (by omega)
  rw [hs] at sh
  have r1 : callN G tb (m + 24) 11 [.d t.d] = M.pure (.int (t.cnt : Int)) := r_count t (m + 24) (by omega)
  have r2 : callN G tb (m + 24) 12 [.d t.d] = M.pure (.int (t.cuts : Int)) := r_cuts t (m + 24) (by omega)
  by_cases c1 : t.cnt ≤ 60
  · have c1' : (t.cnt : Int) ≤ 60 := by omega
    by_cases c2 : t.cuts ≤ 4
    · have c2' : (t.cuts : Int) ≤ 4 := by omega
      simp only [fn_is_term, exs, ex, ev, evv, evs, evi, evo, bind_pure, of_some, sbind_pure, snext_ret, snext_next, startE, lookD, List.map, List.length, List.replicate, List.cons_append, List.nil_append, List.append_nil, List.getElem?_cons_zero, List.getElem?_cons_succ, List.set_cons_zero, List.set_cons_succ, setT, Option.map_some, boolOf, idx_t, idx_l, atI0, atI1, atI2, c_eq_int, c_ne_int, c_lt, c_le, c_gt, c_ge, b_add, b_sub, bl_abs, intOf, sh, r1, r2, hG0, hG1, c1, c2, c1', c2', decide_true, Bool.and_true]
    · have c2' : ¬ (t.cuts : Int) ≤ 4 := by omega
      simp only [fn_is_term, exs, ex, ev, evv, evs, evi, evo, bind_pure, of_some, sbind_pure, snext_ret, snext_next, startE, lookD, List.map, List.length, List.replicate, List.cons_append, List.nil_append, List.append_nil, List.getElem?_cons_zero, List.getElem?_cons_succ, List.set_cons_zero, List.set_cons_succ, setT, Option.map_some, boolOf, idx_t, idx_l, atI0, atI1, atI2, c_eq_int, c_ne_int, c_lt, c_le, c_gt, c_ge, b_add, b_sub, bl_abs, intOf, sh, r1, r2, hG0, hG1, c1, c2, c1', c2', decide_true, decide_false, Bool.and_false]
  · have c1' : ¬ (t.cnt : Int) ≤ 60 := by omega
    simp only [fn_is_term, exs, ex, ev, evv, evs, evi, evo, bind_pure, of_some, sbind_pure, snext_ret, snext_next, startE, lookD, List.map, List.length, List.replicate, List.cons_append, List.nil_append, List.append_nil, List.getElem?_cons_zero, List.getElem?_cons_succ, List.set_cons_zero, List.set_cons_succ, setT, Option.map_some, boolOf, idx_t, idx_l, atI0, atI1, atI2, c_eq_int, c_ne_int, c_lt, c_le, c_gt, c_ge, b_add, b_sub, bl_abs, intOf, sh, r1, r2, hG0, hG1, c1, c1', decide_false, Bool.false_and]
theorem r_count_parts {t : Tm} {m : Nat} (h : callN G tb (m + 24) 13 [.d t.d] = M.pure (.bool true)) (hdp : t.dp ≤ 20) : callN G tb (m + 26) 49 [.d t.d] = M.pure (.int (t.cnt : Int)) := by
  refine call_pure (g := fn_count_parts) rfl rfl fun μ => ?_
  have h1 := r_need_term h
  have h2 : callN G tb (m + 25) 11 [.d t.d] = M.pure (.int (t.cnt : Int)) := r_count t (m + 25) (by omega)
  simp only [fn_count_parts, exs, ex, ev, evv, evs, evi, evo, bind_pure, of_some, sbind_pure, snext_ret, snext_next, startE, lookD, List.map, List.length, List.replicate, List.cons_append, List.nil_append, List.append_nil, List.getElem?_cons_zero, List.getElem?_cons_succ, List.set_cons_zero, List.set_cons_succ, setT, Option.map_some, boolOf, idx_t, idx_l, atI0, atI1, atI2, c_eq_int, c_ne_int, c_lt, c_le, c_gt, c_ge, b_add, b_sub, bl_abs, intOf, h1, h2, if_true]
theorem r_count_cuts {t : Tm} {m : Nat} (h : callN G tb (m + 24) 13 [.d t.d] = M.pure (.bool true)) (hdp : t.dp ≤ 20) : callN G tb (m + 26) 50 [.d t.d] = M.pure (.int (t.cuts : Int)) := by
  refine call_pure (g := fn_count_cuts) rfl rfl fun μ => ?_
  have h1 := r_need_term h
  have h2 : callN G tb (m + 25) 12 [.d t.d] = M.pure (.int (t.cuts : Int)) := r_cuts t (m + 25) (by omega)
  simp only [fn_count_cuts, exs, ex, ev, evv, evs, evi, evo, bind_pure, of_some, sbind_pure, snext_ret, snext_next, startE, lookD, List.map, List.length, List.replicate, List.cons_append, List.nil_append, List.append_nil, List.getElem?_cons_zero, List.getElem?_cons_succ, List.set_cons_zero, List.set_cons_succ, setT, Option.map_some, boolOf, idx_t, idx_l, atI0, atI1, atI2, c_eq_int, c_ne_int, c_lt, c_le, c_gt, c_ge, b_add, b_sub, bl_abs, intOf, h1, h2, if_true]
theorem r_cuts_bad {d : D} {m : Nat} (h : callN G tb m 13 [.d d] = M.pure (.bool false)) : callN G tb (m + 2) 50 [.d d] = M.raise 0 := by
  refine call_exc (g := fn_count_cuts) rfl rfl fun μ => ?_
  have h1 := r_need_term h
  simp only [fn_count_cuts, exs, ex, ev, evv, evs, evi, evo, bind_pure, of_some, sbind_pure, snext_ret, snext_next, startE, lookD, List.map, List.length, List.replicate, List.cons_append, List.nil_append, List.append_nil, List.getElem?_cons_zero, List.getElem?_cons_succ, List.set_cons_zero, List.set_cons_succ, setT, Option.map_some, boolOf, idx_t, idx_l, atI0, atI1, atI2, c_eq_int, c_ne_int, c_lt, c_le, c_gt, c_ge, b_add, b_sub, bl_abs, intOf, h1, Bool.false_eq_true, if_false, sbind_raise, snext_exc]
theorem r_same_bad {d e : D} {m : Nat} (h0 : callN G tb m 13 [.d d] = M.pure (.bool true)) (h : callN G tb m 13 [.d e] = M.pure (.bool false)) : callN G tb (m + 3) 73 [.d d, .d e] = M.raise 0 := by
  have h1 := r_need_term h0
  have h2 := r_need_term h
  have h3 : callN G tb (m + 2) 72 [.d d, .d e] = M.raise 0 := by
    refine call_exc (g := fn_need_two) rfl rfl fun μ => ?_
    simp only [fn_need_two, exs, ex, ev, evv, evs, evi, evo, bind_pure, of_some, sbind_pure, snext_ret, snext_next, startE, lookD, List.map, List.length, List.replicate, List.cons_append, List.nil_append, List.append_nil, List.getElem?_cons_zero, List.getElem?_cons_succ, List.set_cons_zero, List.set_cons_succ, setT, Option.map_some, boolOf, idx_t, idx_l, atI0, atI1, atI2, c_eq_int, c_ne_int, c_lt, c_le, c_gt, c_ge, b_add, b_sub, bl_abs, intOf, h1, h2, Bool.false_eq_true, if_true, if_false, sbind_raise, snext_exc]
  refine call_exc (g := fn_same) rfl rfl fun μ => ?_
  simp only [fn_same, exs, ex, ev, evv, evs, evi, evo, bind_pure, of_some, sbind_pure, snext_ret, snext_next, startE, lookD, List.map, List.length, List.replicate, List.cons_append, List.nil_append, List.append_nil, List.getElem?_cons_zero, List.getElem?_cons_succ, List.set_cons_zero, List.set_cons_succ, setT, Option.map_some, boolOf, idx_t, idx_l, atI0, atI1, atI2, c_eq_int, c_ne_int, c_lt, c_le, c_gt, c_ge, b_add, b_sub, bl_abs, intOf, h3, sbind_raise, snext_exc]
def deepD : Nat → D
  | 0 => .tuple [.str (Str.ofString "in"), .int 0]
  | n + 1 => .tuple [.str (Str.ofString "times"), .tuple [.int 1, .int 1], deepD n]
theorem deepD_succ (n : Nat) : deepD (n + 1) = .tuple [.str (Str.ofString "times"), .tuple [.int 1, .int 1], deepD n] := by rw [deepD]
def badA (t : Tm) : List D :=
  [.none, .int 5, .tuple [], .str (Str.ofString "x"), .list (.str t.kind :: t.rest), .tuple [.str (Str.ofString "in"), .int 2], .tuple [.str (Str.ofString "in"), .bool true], .tuple [.str (Str.ofString "in"), .int (-1)], .tuple [.str (Str.ofString "in")], .tuple [.str (Str.ofString "num"), .int 3],
   .tuple [.str (Str.ofString "num"), .tuple [.int 2, .int 4]],
   .tuple [.str (Str.ofString "num"), .tuple [.int 100, .int 1]], .tuple [.str (Str.ofString "num"), .tuple [.int 1, .int 100]], .tuple [.str (Str.ofString "num"), .tuple [.int 1, .int 0]], .tuple [.str (Str.ofString "add"), t.d],
   .tuple [.str (Str.ofString "add"), t.d, t.d, t.d],
   .tuple [.str (Str.ofString "times"), t.d, .tuple [.int 1, .int 1]], .tuple [.str (Str.ofString "times"), .int 2, t.d], .tuple [.str (Str.ofString "size"), t.d, t.d], .tuple [.str (Str.ofString "max"), t.d, t.d],
   .tuple [.str (Str.ofString "size"), .none],
   .tuple [.str (Str.ofString "times"), .tuple [.int 1, .int (-1)], t.d], .tuple [.str (Str.ofString "num"), .list [.int 1, .int 1]], .tuple [.str (Str.ofString "more"), t.d, .tuple [.str (Str.ofString "in"), .str (Str.ofString "0")]], .tuple [.int 1, .int 2]]
def badL (t : Tm) : List D := badA t ++ [deepD 20]
theorem bl_list (t : Tm) : bltD .list [t.d] = some (.list (.str t.kind :: t.rest)) := by rw [t.d_eq]; rfl
theorem neg1 : (intOf (PyData.int 1)).map (fun i => PyData.int (-i)) = some (.int (-1)) := rfl
theorem bop_addL (xs ys : List D) : bop .add (.list xs) (.list ys) = if xs.length + ys.length ≤ 1000000 then some (.list (xs ++ ys)) else none := rfl
theorem rngE20 : (if rngOk 20 = true then some (rngD 0 (Int.toNat 20)) else none) = some (rngD 0 20) := rfl
theorem r_bad (t : Tm) (m : Nat) : callN G tb (m + 1) 75 [.d t.d] = M.pure (.list (badL t)) := by
  refine pure_of fun μ => ?_
  refine Wr_call (g := fn__law_bad_terms) (f := 75) (vs := [.d t.d]) (n := m) rfl rfl ?_
  have e : startE fn__law_bad_terms.sl [.d t.d] = [some (.d t.d), none, none, none] := rfl
  rw [e]
  unfold fn__law_bad_terms
  dsimp only
  apply Ws_one
  · simp only [exs, ex, ev, evv, evs, evi, evo, bind_pure, of_some, sbind_pure, snext_ret, snext_next, startE, lookD, List.map, List.length, List.replicate, List.cons_append, List.nil_append, List.append_nil, List.getElem?_cons_zero, List.getElem?_cons_succ, List.set_cons_zero, List.set_cons_succ, setT, Option.map_some, boolOf, idx_t, idx_l, atI0, atI1, atI2, c_eq_int, c_ne_int, c_lt, c_le, c_gt, c_ge, b_add, b_sub, bl_abs, intOf, bl_list, bop_addL, Nat.reduceAdd, Nat.reduceLeDiff, if_true]; exact rfl
  apply Ws_one
  · simp only [exs, ex, ev, evv, evs, evi, evo, bind_pure, of_some, sbind_pure, snext_ret, snext_next, startE, lookD, List.map, List.length, List.replicate, List.cons_append, List.nil_append, List.append_nil, List.getElem?_cons_zero, List.getElem?_cons_succ, List.set_cons_zero, List.set_cons_succ, setT, Option.map_some, boolOf, idx_t, idx_l, atI0, atI1, atI2, c_eq_int, c_ne_int, c_lt, c_le, c_gt, c_ge, b_add, b_sub, bl_abs, intOf, bl_list, bop_addL, Nat.reduceAdd, Nat.reduceLeDiff, if_true]; exact rfl
  apply Ws_one
  · simp only [exs, ex, ev, evv, evs, evi, evo, bind_pure, of_some, sbind_pure, snext_ret, snext_next, startE, lookD, List.map, List.length, List.replicate, List.cons_append, List.nil_append, List.append_nil, List.getElem?_cons_zero, List.getElem?_cons_succ, List.set_cons_zero, List.set_cons_succ, setT, Option.map_some, boolOf, idx_t, idx_l, atI0, atI1, atI2, c_eq_int, c_ne_int, c_lt, c_le, c_gt, c_ge, b_add, b_sub, bl_abs, intOf, bl_list, bop_addL, Nat.reduceAdd, Nat.reduceLeDiff, if_true]; exact rfl
  apply Ws_one
  · simp only [exs, ex, ev, evv, evs, evi, evo, bind_pure, of_some, sbind_pure, snext_ret, snext_next, startE, lookD, List.map, List.length, List.replicate, List.cons_append, List.nil_append, List.append_nil, List.getElem?_cons_zero, List.getElem?_cons_succ, List.set_cons_zero, List.set_cons_succ, setT, Option.map_some, boolOf, idx_t, idx_l, atI0, atI1, atI2, c_eq_int, c_ne_int, c_lt, c_le, c_gt, c_ge, b_add, b_sub, bl_abs, intOf, bl_list, bop_addL, Nat.reduceAdd, Nat.reduceLeDiff, if_true]; exact rfl
  apply Ws_one
  · simp only [exs, ex, ev, evv, evs, evi, evo, bind_pure, of_some, sbind_pure, snext_ret, snext_next, startE, lookD, List.map, List.length, List.replicate, List.cons_append, List.nil_append, List.append_nil, List.getElem?_cons_zero, List.getElem?_cons_succ, List.set_cons_zero, List.set_cons_succ, setT, Option.map_some, boolOf, idx_t, idx_l, atI0, atI1, atI2, c_eq_int, c_ne_int, c_lt, c_le, c_gt, c_ge, b_add, b_sub, bl_abs, intOf, bl_list, bop_addL, Nat.reduceAdd, Nat.reduceLeDiff, if_true]; exact rfl
  apply Ws_one
  · simp only [exs, ex, ev, evv, evs, evi, evo, bind_pure, of_some, sbind_pure, snext_ret, snext_next, startE, lookD, List.map, List.length, List.replicate, List.cons_append, List.nil_append, List.append_nil, List.getElem?_cons_zero, List.getElem?_cons_succ, List.set_cons_zero, List.set_cons_succ, setT, Option.map_some, boolOf, idx_t, idx_l, atI0, atI1, atI2, c_eq_int, c_ne_int, c_lt, c_le, c_gt, c_ge, b_add, b_sub, bl_abs, intOf, bl_list, bop_addL, Nat.reduceAdd, Nat.reduceLeDiff, if_true]; exact rfl
  apply Ws_one
  · simp only [exs, ex, ev, evv, evs, evi, evo, bind_pure, of_some, sbind_pure, snext_ret, snext_next, startE, lookD, List.map, List.length, List.replicate, List.cons_append, List.nil_append, List.append_nil, List.getElem?_cons_zero, List.getElem?_cons_succ, List.set_cons_zero, List.set_cons_succ, setT, Option.map_some, boolOf, idx_t, idx_l, atI0, atI1, atI2, c_eq_int, c_ne_int, c_lt, c_le, c_gt, c_ge, b_add, b_sub, bl_abs, intOf, bl_list, bop_addL, Nat.reduceAdd, Nat.reduceLeDiff, if_true]; exact rfl
  apply Ws_one
  · simp only [exs, ex, ev, evv, evs, evi, evo, bind_pure, of_some, sbind_pure, snext_ret, snext_next, startE, lookD, List.map, List.length, List.replicate, List.cons_append, List.nil_append, List.append_nil, List.getElem?_cons_zero, List.getElem?_cons_succ, List.set_cons_zero, List.set_cons_succ, setT, Option.map_some, boolOf, idx_t, idx_l, atI0, atI1, atI2, c_eq_int, c_ne_int, c_lt, c_le, c_gt, c_ge, b_add, b_sub, bl_abs, intOf, bl_list, bop_addL, Nat.reduceAdd, Nat.reduceLeDiff, if_true]; exact rfl
  refine Ws_step (fun en μ' => μ' = μ ∧ ∃ v, en = [some (.d t.d), some (.d (.list (badA t))), some (.d (deepD 20)), v]) ?_ ?_
  · refine Ws_fr (rngD 0 20) (fun k en μ' => μ' = μ ∧ ∃ v, en = [some (.d t.d), some (.d (.list (badA t))), some (.d (deepD k)), v]) (μ' := μ) rfl ⟨rfl, _, rfl⟩ ?_ (fun en μ' h => h)
    rintro j x en μ' hj ⟨rfl, v, rfl⟩
    refine ⟨_, rfl, ?_⟩
    simp only [exs, ex, ev, evv, evs, evi, evo, bind_pure, of_some, sbind_pure, snext_ret, snext_next, startE, lookD, List.map, List.length, List.replicate, List.cons_append, List.nil_append, List.append_nil, List.getElem?_cons_zero, List.getElem?_cons_succ, List.set_cons_zero, List.set_cons_succ, setT, Option.map_some, boolOf, idx_t, idx_l, atI0, atI1, atI2, c_eq_int, c_ne_int, c_lt, c_le, c_gt, c_ge, b_add, b_sub, bl_abs, intOf, Ws_next, deepD_succ]
    exact ⟨trivial, _, rfl⟩
  · rintro en μ' ⟨rfl, v, rfl⟩
    simp only [exs, ex, ev, evv, evs, evi, evo, bind_pure, of_some, sbind_pure, snext_ret, snext_next, startE, lookD, List.map, List.length, List.replicate, List.cons_append, List.nil_append, List.append_nil, List.getElem?_cons_zero, List.getElem?_cons_succ, List.set_cons_zero, List.set_cons_succ, setT, Option.map_some, boolOf, idx_t, idx_l, atI0, atI1, atI2, c_eq_int, c_ne_int, c_lt, c_le, c_gt, c_ge, b_add, b_sub, bl_abs, intOf, bop_addL, badL]
    rw [if_pos (show (badA t).length + (0 + 1) ≤ 1000000 by show 25 + 1 ≤ 1000000; decide)]
    simp only [exs, ex, ev, evv, evs, evi, evo, bind_pure, of_some, sbind_pure, snext_ret, snext_next, startE, lookD, List.map, List.length, List.replicate, List.cons_append, List.nil_append, List.append_nil, List.getElem?_cons_zero, List.getElem?_cons_succ, List.set_cons_zero, List.set_cons_succ, setT, Option.map_some, boolOf, idx_t, idx_l, atI0, atI1, atI2, c_eq_int, c_ne_int, c_lt, c_le, c_gt, c_ge, b_add, b_sub, bl_abs, intOf, Ws_ret, List.take_length, and_self]
theorem be_add_in : (Str.ofString "add" == Str.ofString "in") = false := by decide +kernel
theorem be_add_num : (Str.ofString "add" == Str.ofString "num") = false := by decide +kernel
theorem be_add_size : (Str.ofString "add" == Str.ofString "size") = false := by decide +kernel
theorem be_add_times : (Str.ofString "add" == Str.ofString "times") = false := by decide +kernel
theorem be_add_add : (Str.ofString "add" == Str.ofString "add") = true := by decide +kernel
theorem be_add_more : (Str.ofString "add" == Str.ofString "more") = false := by decide +kernel
theorem be_add_less : (Str.ofString "add" == Str.ofString "less") = false := by decide +kernel
theorem be_times_in : (Str.ofString "times" == Str.ofString "in") = false := by decide +kernel
theorem be_times_num : (Str.ofString "times" == Str.ofString "num") = false := by decide +kernel
theorem be_times_size : (Str.ofString "times" == Str.ofString "size") = false := by decide +kernel
theorem be_times_times : (Str.ofString "times" == Str.ofString "times") = true := by decide +kernel
theorem be_times_add : (Str.ofString "times" == Str.ofString "add") = false := by decide +kernel
theorem be_times_more : (Str.ofString "times" == Str.ofString "more") = false := by decide +kernel
theorem be_times_less : (Str.ofString "times" == Str.ofString "less") = false := by decide +kernel
theorem be_size_in : (Str.ofString "size" == Str.ofString "in") = false := by decide +kernel
theorem be_size_num : (Str.ofString "size" == Str.ofString "num") = false := by decide +kernel
theorem be_size_size : (Str.ofString "size" == Str.ofString "size") = true := by decide +kernel
theorem be_size_times : (Str.ofString "size" == Str.ofString "times") = false := by decide +kernel
theorem be_size_add : (Str.ofString "size" == Str.ofString "add") = false := by decide +kernel
theorem be_size_more : (Str.ofString "size" == Str.ofString "more") = false := by decide +kernel
theorem be_size_less : (Str.ofString "size" == Str.ofString "less") = false := by decide +kernel
theorem be_max_in : (Str.ofString "max" == Str.ofString "in") = false := by decide +kernel
theorem be_max_num : (Str.ofString "max" == Str.ofString "num") = false := by decide +kernel
theorem be_max_size : (Str.ofString "max" == Str.ofString "size") = false := by decide +kernel
theorem be_max_times : (Str.ofString "max" == Str.ofString "times") = false := by decide +kernel
theorem be_max_add : (Str.ofString "max" == Str.ofString "add") = false := by decide +kernel
theorem be_max_more : (Str.ofString "max" == Str.ofString "more") = false := by decide +kernel
theorem be_max_less : (Str.ofString "max" == Str.ofString "less") = false := by decide +kernel
theorem be_more_in : (Str.ofString "more" == Str.ofString "in") = false := by decide +kernel
theorem be_more_num : (Str.ofString "more" == Str.ofString "num") = false := by decide +kernel
theorem be_more_size : (Str.ofString "more" == Str.ofString "size") = false := by decide +kernel
theorem be_more_times : (Str.ofString "more" == Str.ofString "times") = false := by decide +kernel
theorem be_more_add : (Str.ofString "more" == Str.ofString "add") = false := by decide +kernel
theorem be_more_more : (Str.ofString "more" == Str.ofString "more") = true := by decide +kernel
theorem be_more_less : (Str.ofString "more" == Str.ofString "less") = false := by decide +kernel
theorem fr_tm (t : Tm) : frB 99 t.d = false := by cases t <;> rfl
theorem fr_11 : frB 99 (.tuple [.int 1, .int (-1)]) = false := by decide +kernel
theorem in_0 : shB 19 (.tuple [.str (Str.ofString "in"), .str (Str.ofString "0")]) = false := by decide +kernel
theorem deep_no : shB 20 (deepD 20) = false := by decide +kernel
theorem bad_no (t : Tm) (d : D) (h : d ∈ badL t) : okL d ∧ shB 20 d = false := by
  unfold badL badA at h
  simp only [List.cons_append, List.nil_append, List.mem_cons, List.not_mem_nil, or_false] at h
  have ot := t.okd
  have ot2 : okL (.list (.str t.kind :: t.rest)) := by
    have := t.okd
    rw [t.d_eq] at this
    exact this
  have tup : ∀ xs : List D, (∀ d ∈ xs, okL d) → okL (.tuple xs) := fun xs h => ok_tup h
  rcases h with e | e | e | e | e | e | e | e | e | e | e | e | e | e | e | e | e | e | e | e | e | e | e | e | e | e
  all_goals subst e
  all_goals first
    | exact ⟨by unfold okL; decide +kernel, by decide +kernel⟩
    | exact ⟨ot2, rfl⟩
    | exact ⟨by unfold okL; decide +kernel, deep_no⟩
    | skip
  all_goals refine ⟨?_, ?_⟩
  all_goals first
    | (refine tup _ fun d hd => ?_
       simp only [List.mem_cons, List.not_mem_nil, or_false] at hd
       rcases hd with e | e | e | e
       all_goals (subst e; first | exact ot | (unfold okL; decide +kernel)))
    | (refine tup _ fun d hd => ?_
       simp only [List.mem_cons, List.not_mem_nil, or_false] at hd
       rcases hd with e | e | e
       all_goals (subst e; first | exact ot | (unfold okL; decide +kernel)))
    | (refine tup _ fun d hd => ?_
       simp only [List.mem_cons, List.not_mem_nil, or_false] at hd
       rcases hd with e | e
       all_goals (subst e; first | exact ot | (unfold okL; decide +kernel)))
    | simp only [shB, be_add_in, be_add_num, be_add_size, be_add_times, be_add_add, be_add_more, be_add_less, be_times_in, be_times_num, be_times_size, be_times_times, be_times_add, be_times_more, be_times_less, be_size_in, be_size_num, be_size_size, be_size_times, be_size_add, be_size_more, be_size_less, be_max_in, be_max_num, be_max_size, be_max_times, be_max_add, be_max_more, be_max_less, be_more_in, be_more_num, be_more_size, be_more_times, be_more_add, be_more_more, be_more_less, Bool.false_eq_true, if_true, if_false, Bool.or_false, Bool.false_or, Bool.or_true, Bool.true_or, fr_tm, fr_11, in_0, Bool.false_and, Bool.and_false]
    | skip
  all_goals first
    | rfl
    | (rw [show (Str.ofString "in" == Str.ofString "in") = true from by decide +kernel, if_pos rfl]
       exact Bool.and_false _)
end
end Mp

set_option maxRecDepth 100000
set_option maxHeartbeats 4000000
/-! Pu19: k03's round, its suite. -/
namespace Mp
open PySem L2
def ce03 : ME := (.compIf 4 (.seq (.var 3)) (.cmp .inn (.idx (.var 4) (.cst (.int 0))) (.tup (.cons (.cst (.str (Str.ofString "more"))) (.cons (.cst (.str (Str.ofString "less"))) (.cons (.cst (.str (Str.ofString "size"))) .nil))))) (.var 4))
def lb03 : List MS := [.asg (.n 2) (.call 37 (.cons (.cv 1) (.cons (.cst (.int 4)) .nil))), .asg (.n 3) (.call 74 (.cons (.var 2) .nil)), .iff (.or (.not (.call 13 (.cons (.var 2) .nil))) (.cmp .ne (.call 49 (.cons (.var 2) .nil)) (.blt .len (.cons (.var 3) .nil)))) [.ret (.cst (.bool false))] [], .iff (.cmp .ne (.call 50 (.cons (.var 2) .nil)) (.blt .len (.cons ce03 .nil))) [.ret (.cst (.bool false))] [], .fr (.n 5) (.seq (.call 75 (.cons (.var 2) .nil))) [.iff (.or (.call 13 (.cons (.var 5) .nil)) (.cmp .ne (.told (.call 50 (.cons (.var 5) .nil))) (.tup (.cons (.cst (.str (Str.ofString "error"))) (.cons (.cst (.str (Str.ofString "InvalidTerm"))) .nil))))) [.ret (.cst (.bool false))] [], .iff (.cmp .ne (.told (.call 73 (.cons (.tup (.cons (.cst (.str (Str.ofString "in"))) (.cons (.cst (.int 0)) .nil))) (.cons (.var 5) .nil)))) (.tup (.cons (.cst (.str (Str.ofString "error"))) (.cons (.cst (.str (Str.ofString "InvalidTerm"))) .nil)))) [.ret (.cst (.bool false))] []], .asg (.n 6) (.tup (.cons (.cst (.str (Str.ofString "in"))) (.cons (.cst (.int 0)) .nil))), .fr (.n 7) (.rng1 (.cst (.int 19))) [.asg (.n 6) (.tup (.cons (.cst (.str (Str.ofString "add"))) (.cons (.var 6) (.cons (.tup (.cons (.cst (.str (Str.ofString "in"))) (.cons (.cst (.int 1)) .nil))) .nil))))], .iff (.or (.not (.call 13 (.cons (.var 6) .nil))) (.or (.cmp .ne (.call 49 (.cons (.var 6) .nil)) (.cst (.int 39))) (.call 13 (.cons (.tup (.cons (.cst (.str (Str.ofString "add"))) (.cons (.var 6) (.cons (.tup (.cons (.cst (.str (Str.ofString "num"))) (.cons (.tup (.cons (.cst (.int 0)) (.cons (.cst (.int 1)) .nil))) .nil))) .nil)))) .nil)))) [.ret (.cst (.bool false))] [], .asg (.n 8) (.tup (.cons (.cst (.str (Str.ofString "in"))) (.cons (.cst (.int 1)) .nil))), .fr (.n 7) (.rng1 (.cst (.int 14))) [.asg (.n 8) (.tup (.cons (.cst (.str (Str.ofString "add"))) (.cons (.var 8) (.cons (.tup (.cons (.cst (.str (Str.ofString "in"))) (.cons (.cst (.int 0)) .nil))) .nil))))], .iff (.or (.cmp .ne (.call 49 (.cons (.tup (.cons (.cst (.str (Str.ofString "add"))) (.cons (.var 8) (.cons (.var 8) .nil)))) .nil)) (.cst (.int 59))) (.call 13 (.cons (.tup (.cons (.cst (.str (Str.ofString "add"))) (.cons (.tup (.cons (.cst (.str (Str.ofString "add"))) (.cons (.var 8) (.cons (.var 8) .nil)))) (.cons (.var 8) .nil)))) .nil))) [.ret (.cst (.bool false))] [], .asg (.n 9) (.tup (.cons (.cst (.str (Str.ofString "size"))) (.cons (.tup (.cons (.cst (.str (Str.ofString "size"))) (.cons (.tup (.cons (.cst (.str (Str.ofString "more"))) (.cons (.tup (.cons (.cst (.str (Str.ofString "in"))) (.cons (.cst (.int 0)) .nil))) (.cons (.tup (.cons (.cst (.str (Str.ofString "less"))) (.cons (.tup (.cons (.cst (.str (Str.ofString "in"))) (.cons (.cst (.int 0)) .nil))) (.cons (.tup (.cons (.cst (.str (Str.ofString "in"))) (.cons (.cst (.int 1)) .nil))) .nil)))) .nil)))) .nil))) .nil))), .iff (.or (.not (.call 13 (.cons (.var 9) .nil))) (.or (.cmp .ne (.call 50 (.cons (.var 9) .nil)) (.cst (.int 4))) (.call 13 (.cons (.tup (.cons (.cst (.str (Str.ofString "size"))) (.cons (.var 9) .nil))) .nil)))) [.ret (.cst (.bool false))] []]
theorem mapIf_pure {c : D → M Bool} {f : D → M D} {p : D → Bool} {g : D → D} : ∀ {xs : List D}, (∀ x ∈ xs, c x = M.pure (p x)) → (∀ x ∈ xs, f x = M.pure (g x)) → mapIf c f xs = M.pure ((xs.filter p).map g)
  | [], _, _ => rfl
  | x :: r, hc, hf => by
    have ih := mapIf_pure (xs := r) (fun y hy => hc y (List.mem_cons_of_mem _ hy)) (fun y hy => hf y (List.mem_cons_of_mem _ hy))
    show (c x).bind _ = _
    rw [hc x List.mem_cons_self, bind_pure]
    cases q : p x with
    | true =>
      rw [List.filter_cons, if_pos q, List.map_cons]
      show (f x).bind _ = _
      rw [hf x List.mem_cons_self, bind_pure, ih, bind_pure]
    | false =>
      rw [List.filter_cons, if_neg (by rw [q]; decide)]
      exact ih
theorem mapM_pure {f : D → M D} {g : D → D} : ∀ {xs : List D}, (∀ x ∈ xs, f x = M.pure (g x)) → mapM' f xs = M.pure (xs.map g)
  | [], _ => rfl
  | x :: r, hf => by
    have ih := mapM_pure (xs := r) (fun y hy => hf y (List.mem_cons_of_mem _ hy))
    rw [mapM_cons, hf x List.mem_cons_self, bind_pure, ih, bind_pure]
    rfl
theorem len_l (xs : List D) : bltD .len [.list xs] = some (.int (xs.length : Int)) := rfl
theorem lenOk_of {xs : List D} (h : xs.length ≤ 1000000) : lenOk xs = some xs := if_pos h
theorem cut_in (s : Tm) : cop .inn (.str s.kind) (.tuple [.str (Str.ofString "more"), .str (Str.ofString "less"), .str (Str.ofString "size")]) = some s.isCut := by
  rw [inn_of]
  cases s
  · exact si_cut3_in
  · exact si_cut3_num
  · exact si_cut3_times
  · exact si_cut3_size
  · exact si_cut3_add
  · exact si_cut3_more
  · exact si_cut3_less
def wideT : Nat → Tm
  | 0 => .inp false
  | n + 1 => .add (wideT n) (.inp true)
def halfT : Nat → Tm
  | 0 => .inp true
  | n + 1 => .add (halfT n) (.inp false)
theorem wide_d (n : Nat) : (wideT (n + 1)).d = .tuple [.str (Str.ofString "add"), (wideT n).d, .tuple [.str (Str.ofString "in"), .int 1]] := by rw [wideT, Tm.d]; rfl
theorem half_d (n : Nat) : (halfT (n + 1)).d = .tuple [.str (Str.ofString "add"), (halfT n).d, .tuple [.str (Str.ofString "in"), .int 0]] := by rw [halfT, Tm.d]; rfl
theorem ne_self (i : Int) : (!(i == i)) = false := by simp
section
variable {G : Nat → Option D}
theorem filt_map (p : D → Bool) (q : Tm → Bool) (h : ∀ s : Tm, p s.d = q s) : ∀ l : List Tm, ((l.map Tm.d).filter p).length = (l.filter q).length
  | [] => rfl
  | s :: r => by
    rw [List.map_cons, List.filter_cons, List.filter_cons, h s]
    split
    · rw [List.length_cons, List.length_cons, filt_map p q h r]
    · exact filt_map p q h r
theorem round03 (hG0 : G 0 = some (.int 60)) (hG1 : G 1 = some (.int 4)) (hE0 : G 1000 = some (.tuple [.str (Str.ofString "error"), .str (Str.ofString "InvalidTerm")])) (c : Int) (hc : c.natAbs < 2 ^ 1048577) :
    ∃ en μ, exs G (callN G tb 60) lb03 [none, some (.c 0), none, none, none, none, none, none, none, none] [.lst [.int c, .int 0]] = some (.next en μ) := by
  have D0 : Dice 0 [.lst [.int c, .int 0]] := ⟨c, 0, rfl, hc, Nat.le_refl _⟩
  have n0 : cop .ne (.tuple [.str (Str.ofString "error"), .str (Str.ofString "InvalidTerm")]) (.tuple [.str (Str.ofString "error"), .str (Str.ofString "InvalidTerm")]) = some false := by decide +kernel
  refine run_of ?_
  unfold lb03
  refine Ws_step (fun en μ => ∃ t, en = [none, some (.c 0), some (.d (Tm.d t)), none, none, none, none, none, none, none] ∧ IsT G t) ?_ ?_
  · rw [ex, Ws_sbind]
    simp only [exs, ex, ev, evv, evs, evi, evo, bind_pure, of_some, sbind_pure, snext_ret, snext_next, startE, lookD, List.map, List.length, List.replicate, List.cons_append, List.nil_append, List.append_nil, List.getElem?_cons_zero, List.getElem?_cons_succ, List.set_cons_zero, List.set_cons_succ, setT, Option.map_some, boolOf, idx_t, idx_l, atI0, atI1, atI2, c_eq_int, c_ne_int, c_lt, c_le, c_gt, c_ge, b_add, b_sub, bl_abs, intOf, lookC]
    exact (Wr_rl (r_any (n := 20) hG0 hG1 D0 (by decide) 4 (by decide))).mono (fun d μ ⟨D1, t, e, h⟩ => by
      subst e
      rw [Ws_next]
      exact ⟨t, rfl, h⟩) (fun _ _ h => h.elim)
  rintro en μ ⟨t, rfl, gt, rt⟩
  have hcnt := gt.cnt
  have hdp := gt.dp
  have f1 := r_lparts (G := G) t 60 gt.cnt (by omega)
  have f2 := rt 60 (by decide)
  have f3 : callN G tb 60 49 [.d t.d] = M.pure (.int (t.cnt : Int)) := r_count_parts (m := 34) (rt 58 (by decide)) gt.dp
  have f4 : callN G tb 60 50 [.d t.d] = M.pure (.int (t.cuts : Int)) := r_count_cuts (m := 34) (rt 58 (by decide)) gt.dp
  apply Ws_one
  · simp only [exs, ex, ev, evv, evs, evi, evo, bind_pure, of_some, sbind_pure, snext_ret, snext_next, startE, lookD, List.map, List.length, List.replicate, List.cons_append, List.nil_append, List.append_nil, List.getElem?_cons_zero, List.getElem?_cons_succ, List.set_cons_zero, List.set_cons_succ, setT, Option.map_some, boolOf, idx_t, idx_l, atI0, atI1, atI2, c_eq_int, c_ne_int, c_lt, c_le, c_gt, c_ge, b_add, b_sub, bl_abs, intOf, f1]; exact rfl
  apply Ws_one
  · simp only [exs, ex, ev, evv, evs, evi, evo, bind_pure, of_some, sbind_pure, snext_ret, snext_next, startE, lookD, List.map, List.length, List.replicate, List.cons_append, List.nil_append, List.append_nil, List.getElem?_cons_zero, List.getElem?_cons_succ, List.set_cons_zero, List.set_cons_succ, setT, Option.map_some, boolOf, idx_t, idx_l, atI0, atI1, atI2, c_eq_int, c_ne_int, c_lt, c_le, c_gt, c_ge, b_add, b_sub, bl_abs, intOf, f2, f3, len_l, List.length_map, subs_len, Bool.not_true, ne_self]; exact rfl
  have comp : ev G (callN G tb 60) ce03 [none, some (.c 0), some (.d t.d), some (.d (.list (t.subs.map Tm.d))), none, none, none, none, none, none] = M.pure (.list (((t.subs.map Tm.d).filter fun d => match idxD d (.int 0) with
      | some (.str k) => (match cop .inn (.str k) (.tuple [.str (Str.ofString "more"), .str (Str.ofString "less"), .str (Str.ofString "size")]) with
        | some b => b
        | none => false)
      | _ => false).map id)) := by
    unfold ce03
    rw [ev]
    simp only [exs, ex, ev, evv, evs, evi, evo, bind_pure, of_some, sbind_pure, snext_ret, snext_next, startE, lookD, List.map, List.length, List.replicate, List.cons_append, List.nil_append, List.append_nil, List.getElem?_cons_zero, List.getElem?_cons_succ, List.set_cons_zero, List.set_cons_succ, setT, Option.map_some, boolOf, idx_t, idx_l, atI0, atI1, atI2, c_eq_int, c_ne_int, c_lt, c_le, c_gt, c_ge, b_add, b_sub, bl_abs, intOf, seqOf, lenOk_of (xs := t.subs.map Tm.d) (by rw [List.length_map, subs_len]; omega)]
    refine (congrArg (fun m => M.bind m (fun ys => M.pure (PyData.list ys))) (mapIf_pure (g := id) (p := fun d => match idxD d (.int 0) with
      | some (.str k) => (match cop .inn (.str k) (.tuple [.str (Str.ofString "more"), .str (Str.ofString "less"), .str (Str.ofString "size")]) with
        | some b => b
        | none => false)
      | _ => false) (fun x hx => ?_) (fun x hx => rfl))).trans rfl
    · obtain ⟨s, hs, rfl⟩ := List.mem_map.mp hx
      simp only [exs, ex, ev, evv, evs, evi, evo, bind_pure, of_some, sbind_pure, snext_ret, snext_next, startE, lookD, List.map, List.length, List.replicate, List.cons_append, List.nil_append, List.append_nil, List.getElem?_cons_zero, List.getElem?_cons_succ, List.set_cons_zero, List.set_cons_succ, setT, Option.map_some, boolOf, idx_t, idx_l, atI0, atI1, atI2, c_eq_int, c_ne_int, c_lt, c_le, c_gt, c_ge, b_add, b_sub, bl_abs, intOf, tm_ix0, cut_in, nox_pure]
  have cl : ((t.subs.map Tm.d).filter fun d => match idxD d (.int 0) with
      | some (.str k) => (match cop .inn (.str k) (.tuple [.str (Str.ofString "more"), .str (Str.ofString "less"), .str (Str.ofString "size")]) with
        | some b => b
        | none => false)
      | _ => false).length = t.cuts := by
    rw [filt_map _ Tm.isCut (fun s => by simp only [tm_ix0, cut_in]), subs_cuts]
  apply Ws_one
  · simp only [exs, ex, ev, evv, evs, evi, evo, bind_pure, of_some, sbind_pure, snext_ret, snext_next, startE, lookD, List.map, List.length, List.replicate, List.cons_append, List.nil_append, List.append_nil, List.getElem?_cons_zero, List.getElem?_cons_succ, List.set_cons_zero, List.set_cons_succ, setT, Option.map_some, boolOf, idx_t, idx_l, atI0, atI1, atI2, c_eq_int, c_ne_int, c_lt, c_le, c_gt, c_ge, b_add, b_sub, bl_abs, intOf, f4, comp, len_l, List.length_map, cl, ne_self]; exact rfl
  have bad : ∀ d ∈ badL t, callN G tb 60 13 [.d d] = M.pure (.bool false) ∧ callN G tb 60 50 [.d d] = M.raise 0 ∧ callN G tb 60 73 [.d (.tuple [.str (Str.ofString "in"), .int 0]), .d d] = M.raise 0 := fun d hd => by
    obtain ⟨o1, o2⟩ := bad_no t d hd
    have i0 : callN G tb 57 13 [.d (.tuple [.str (Str.ofString "in"), .int 0])] = M.pure (.bool true) := r_is_tm hG0 hG1 (.inp false) (by decide +kernel) (by decide) 57 (by decide)
    exact ⟨r_is_no o1 o2 60 (by decide), r_cuts_bad (m := 58) (r_is_no o1 o2 58 (by decide)), r_same_bad (m := 57) i0 (r_is_no o1 o2 57 (by decide))⟩
  have f5 := r_bad (G := G) t 59
  refine Ws_step (fun en μ' => ∃ v, en = [none, some (.c 0), some (.d (Tm.d t)), some (.d (.list (t.subs.map Tm.d))), none, v, none, none, none, none]) ?_ ?_
  · refine Ws_fr (badL t) (fun k en μ' => ∃ v, en = [none, some (.c 0), some (.d (Tm.d t)), some (.d (.list (t.subs.map Tm.d))), none, v, none, none, none, none]) (μ' := μ) (by simp only [exs, ex, ev, evv, evs, evi, evo, bind_pure, of_some, sbind_pure, snext_ret, snext_next, startE, lookD, List.map, List.length, List.replicate, List.cons_append, List.nil_append, List.append_nil, List.getElem?_cons_zero, List.getElem?_cons_succ, List.set_cons_zero, List.set_cons_succ, setT, Option.map_some, boolOf, idx_t, idx_l, atI0, atI1, atI2, c_eq_int, c_ne_int, c_lt, c_le, c_gt, c_ge, b_add, b_sub, bl_abs, intOf, f5, seqOf]; exact rfl) ⟨_, rfl⟩ ?_ (fun en μ' h => h)
    rintro j x en μ' hj ⟨v, rfl⟩
    obtain ⟨b1, b2, b3⟩ := bad x (List.mem_of_getElem? hj)
    refine ⟨_, rfl, ?_⟩
    simp only [exs, ex, ev, evv, evs, evi, evo, bind_pure, of_some, sbind_pure, snext_ret, snext_next, startE, lookD, List.map, List.length, List.replicate, List.cons_append, List.nil_append, List.append_nil, List.getElem?_cons_zero, List.getElem?_cons_succ, List.set_cons_zero, List.set_cons_succ, setT, Option.map_some, boolOf, idx_t, idx_l, atI0, atI1, atI2, c_eq_int, c_ne_int, c_lt, c_le, c_gt, c_ge, b_add, b_sub, bl_abs, intOf, M.bind, M.pure, M.of, sbind, snext, b1, b2, b3, M.raise, hE0, n0, Ws_next]
    exact ⟨_, rfl⟩
  rintro en μ' ⟨v, rfl⟩
  clear bad f5 comp cl f1 f2 f3 f4
  generalize hT : Val.d t.d = vT
  generalize hL : Val.d (.list (t.subs.map Tm.d)) = vL
  apply Ws_one
  · simp only [exs, ex, ev, evv, evs, evi, evo, bind_pure, of_some, sbind_pure, snext_ret, snext_next, startE, lookD, List.map, List.length, List.replicate, List.cons_append, List.nil_append, List.append_nil, List.getElem?_cons_zero, List.getElem?_cons_succ, List.set_cons_zero, List.set_cons_succ, setT, Option.map_some, boolOf, idx_t, idx_l, atI0, atI1, atI2, c_eq_int, c_ne_int, c_lt, c_le, c_gt, c_ge, b_add, b_sub, bl_abs, intOf]; exact rfl
  refine Ws_step (fun en μ' => ∃ v7, en = [none, some (.c 0), some vT, some vL, none, v, some (.d (wideT 19).d), v7, none, none]) ?_ ?_
  · refine Ws_fr (rngD 0 19) (fun k en μ' => ∃ v7, en = [none, some (.c 0), some vT, some vL, none, v, some (.d (wideT k).d), v7, none, none]) (μ' := μ') rfl ⟨_, rfl⟩ ?_ (fun en μ' h => h)
    rintro j x en μ' hj ⟨v7, rfl⟩
    refine ⟨_, rfl, ?_⟩
    simp only [exs, ex, ev, evv, evs, evi, evo, bind_pure, of_some, sbind_pure, snext_ret, snext_next, startE, lookD, List.map, List.length, List.replicate, List.cons_append, List.nil_append, List.append_nil, List.getElem?_cons_zero, List.getElem?_cons_succ, List.set_cons_zero, List.set_cons_succ, setT, Option.map_some, boolOf, idx_t, idx_l, atI0, atI1, atI2, c_eq_int, c_ne_int, c_lt, c_le, c_gt, c_ge, b_add, b_sub, bl_abs, intOf, Ws_next, wide_d]
    exact ⟨_, rfl⟩
  rintro en μ' ⟨v7, rfl⟩
  have w1 : callN G tb 60 13 [.d (wideT 19).d] = M.pure (.bool true) := r_is_tm hG0 hG1 (wideT 19) (by decide +kernel) (by decide +kernel) 60 (by decide)
  have w2 : callN G tb 60 49 [.d (wideT 19).d] = M.pure (.int 39) := r_count_parts (m := 34) (r_is_tm hG0 hG1 (wideT 19) (by decide +kernel) (by decide +kernel) 58 (by decide)) (by decide +kernel)
  have w3 : callN G tb 60 13 [.d (.tuple [.str (Str.ofString "add"), (wideT 19).d, .tuple [.str (Str.ofString "num"), .tuple [.int 0, .int 1]]])] = M.pure (.bool false) := r_is_no (Tm.okd (.add (wideT 19) (.num 0))) (by decide +kernel) 60 (by decide)
  apply Ws_one
  · simp only [exs, ex, ev, evv, evs, evi, evo, bind_pure, of_some, sbind_pure, snext_ret, snext_next, startE, lookD, List.map, List.length, List.replicate, List.cons_append, List.nil_append, List.append_nil, List.getElem?_cons_zero, List.getElem?_cons_succ, List.set_cons_zero, List.set_cons_succ, setT, Option.map_some, boolOf, idx_t, idx_l, atI0, atI1, atI2, c_eq_int, c_ne_int, c_lt, c_le, c_gt, c_ge, b_add, b_sub, bl_abs, intOf, w1, w2, w3, Bool.not_true, ne_self]; exact rfl
  apply Ws_one
  · simp only [exs, ex, ev, evv, evs, evi, evo, bind_pure, of_some, sbind_pure, snext_ret, snext_next, startE, lookD, List.map, List.length, List.replicate, List.cons_append, List.nil_append, List.append_nil, List.getElem?_cons_zero, List.getElem?_cons_succ, List.set_cons_zero, List.set_cons_succ, setT, Option.map_some, boolOf, idx_t, idx_l, atI0, atI1, atI2, c_eq_int, c_ne_int, c_lt, c_le, c_gt, c_ge, b_add, b_sub, bl_abs, intOf]; exact rfl
  refine Ws_step (fun en μ' => ∃ v7, en = [none, some (.c 0), some vT, some vL, none, v, some (.d (wideT 19).d), v7, some (.d (halfT 14).d), none]) ?_ ?_
  · refine Ws_fr (rngD 0 14) (fun k en μ' => ∃ v7, en = [none, some (.c 0), some vT, some vL, none, v, some (.d (wideT 19).d), v7, some (.d (halfT k).d), none]) (μ' := μ') rfl ⟨_, rfl⟩ ?_ (fun en μ' h => h)
    rintro j x en μ' hj ⟨v7, rfl⟩
    refine ⟨_, rfl, ?_⟩
    simp only [exs, ex, ev, evv, evs, evi, evo, bind_pure, of_some, sbind_pure, snext_ret, snext_next, startE, lookD, List.map, List.length, List.replicate, List.cons_append, List.nil_append, List.append_nil, List.getElem?_cons_zero, List.getElem?_cons_succ, List.set_cons_zero, List.set_cons_succ, setT, Option.map_some, boolOf, idx_t, idx_l, atI0, atI1, atI2, c_eq_int, c_ne_int, c_lt, c_le, c_gt, c_ge, b_add, b_sub, bl_abs, intOf, Ws_next, half_d]
    exact ⟨_, rfl⟩
  rintro en μ' ⟨v7, rfl⟩
  have h2 : callN G tb 60 49 [.d (.tuple [.str (Str.ofString "add"), (halfT 14).d, (halfT 14).d])] = M.pure (.int 59) := r_count_parts (t := .add (halfT 14) (halfT 14)) (m := 34) (r_is_tm hG0 hG1 (.add (halfT 14) (halfT 14)) (by decide +kernel) (by decide +kernel) 58 (by decide)) (by decide +kernel)
  have h3 : callN G tb 60 13 [.d (.tuple [.str (Str.ofString "add"), .tuple [.str (Str.ofString "add"), (halfT 14).d, (halfT 14).d], (halfT 14).d])] = M.pure (.bool false) := r_is_tm hG0 hG1 (.add (.add (halfT 14) (halfT 14)) (halfT 14)) (by decide +kernel) (by decide +kernel) 60 (by decide)
  apply Ws_one
  · simp only [exs, ex, ev, evv, evs, evi, evo, bind_pure, of_some, sbind_pure, snext_ret, snext_next, startE, lookD, List.map, List.length, List.replicate, List.cons_append, List.nil_append, List.append_nil, List.getElem?_cons_zero, List.getElem?_cons_succ, List.set_cons_zero, List.set_cons_succ, setT, Option.map_some, boolOf, idx_t, idx_l, atI0, atI1, atI2, c_eq_int, c_ne_int, c_lt, c_le, c_gt, c_ge, b_add, b_sub, bl_abs, intOf, h2, h3, ne_self]; exact rfl
  apply Ws_one
  · simp only [exs, ex, ev, evv, evs, evi, evo, bind_pure, of_some, sbind_pure, snext_ret, snext_next, startE, lookD, List.map, List.length, List.replicate, List.cons_append, List.nil_append, List.append_nil, List.getElem?_cons_zero, List.getElem?_cons_succ, List.set_cons_zero, List.set_cons_succ, setT, Option.map_some, boolOf, idx_t, idx_l, atI0, atI1, atI2, c_eq_int, c_ne_int, c_lt, c_le, c_gt, c_ge, b_add, b_sub, bl_abs, intOf]; exact rfl
  have k1 : callN G tb 60 13 [.d (.tuple [.str (Str.ofString "size"), .tuple [.str (Str.ofString "size"), .tuple [.str (Str.ofString "more"), .tuple [.str (Str.ofString "in"), .int 0], .tuple [.str (Str.ofString "less"), .tuple [.str (Str.ofString "in"), .int 0], .tuple [.str (Str.ofString "in"), .int 1]]]]])] = M.pure (.bool true) := r_is_tm hG0 hG1 (.size (.size (.more (.inp false) (.less (.inp false) (.inp true))))) (by decide +kernel) (by decide +kernel) 60 (by decide)
  have k2 : callN G tb 60 50 [.d (.tuple [.str (Str.ofString "size"), .tuple [.str (Str.ofString "size"), .tuple [.str (Str.ofString "more"), .tuple [.str (Str.ofString "in"), .int 0], .tuple [.str (Str.ofString "less"), .tuple [.str (Str.ofString "in"), .int 0], .tuple [.str (Str.ofString "in"), .int 1]]]]])] = M.pure (.int 4) := r_count_cuts (t := .size (.size (.more (.inp false) (.less (.inp false) (.inp true))))) (m := 34) (r_is_tm hG0 hG1 (.size (.size (.more (.inp false) (.less (.inp false) (.inp true))))) (by decide +kernel) (by decide +kernel) 58 (by decide)) (by decide +kernel)
  have k3 : callN G tb 60 13 [.d (.tuple [.str (Str.ofString "size"), .tuple [.str (Str.ofString "size"), .tuple [.str (Str.ofString "size"), .tuple [.str (Str.ofString "more"), .tuple [.str (Str.ofString "in"), .int 0], .tuple [.str (Str.ofString "less"), .tuple [.str (Str.ofString "in"), .int 0], .tuple [.str (Str.ofString "in"), .int 1]]]]]])] = M.pure (.bool false) := r_is_tm hG0 hG1 (.size (.size (.size (.more (.inp false) (.less (.inp false) (.inp true)))))) (by decide +kernel) (by decide +kernel) 60 (by decide)
  apply Ws_one
  · simp only [exs, ex, ev, evv, evs, evi, evo, bind_pure, of_some, sbind_pure, snext_ret, snext_next, startE, lookD, List.map, List.length, List.replicate, List.cons_append, List.nil_append, List.append_nil, List.getElem?_cons_zero, List.getElem?_cons_succ, List.set_cons_zero, List.set_cons_succ, setT, Option.map_some, boolOf, idx_t, idx_l, atI0, atI1, atI2, c_eq_int, c_ne_int, c_lt, c_le, c_gt, c_ge, b_add, b_sub, bl_abs, intOf, k1, k2, k3, Bool.not_true, ne_self]; exact rfl
  rw [Ws_nil]
  trivial
end
end Mp

set_option maxRecDepth 100000
set_option maxHeartbeats 4000000
namespace Mp
open PySem
theorem bits_lt {c : Int} (h : Builtin.Int.intBits c ≤ 1048576) : c.natAbs < 2 ^ 1048577 := by
  by_cases h0 : c = 0
  · rw [h0]; exact Nat.pow_pos (by decide)
  · have e : (c == 0) = false := by simpa using h0
    have h1 : c.natAbs.log2 + 1 ≤ 1048576 := by
      unfold Builtin.Int.intBits at h
      rw [e] at h
      exact h
    exact (Nat.log2_lt (by omega)).mp (by omega)
end Mp
theorem PySem.Challenge.cw_bentnets_k03_whole_terms_holds : PySem.Challenge.rw_bentnets_k03_whole_terms.Holds := by
  refine K03.ends 60 (by decide) fun c hc => ?_
  exact Mp.round03 (G := K03.R.G) rfl rfl rfl c (Mp.bits_lt hc)
